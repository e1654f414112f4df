import PyProof.Rows.All
import Wide.All
import OpenK.AllK
import Wide.FinOn
import KE.KStateDown
import HandS.Base
import HandS.Call
import HandS.List
import HandS.Comp
import HandS.Dict
import HandS.Iter
import HandS.Text
import HandS.Ends
import HandS.More
import HandS.Exc
import HandS.TryOnly
import HandS.ExcOwn
import HandS.ExcInit
import HandS.Words
import HandS.WordsExc
import HandS.IsInst
import HandS.Wide
import HandS.Defaults
import KE.SortData
import HandS.Deep
import HandS.Style
import HandS.ExcField
import HandS.RaiseMore
import KE.KExcIs
import HandS.DictTup
import HandS.Strs
import HandS.SetFor
import HandS.DictComp
import HandS.ListItems
import HandS.Finally
import HandS.HeadHook1
import HandS.Conv
import HandS.Head0
import HandS.Head1
import HandS.Head2
import HandS.HeadEnd
import HandS.HeadHook2
import PySem.Challenge.RW_cameposts_k75_refusals_made
set_option Elab.async false
set_option autoImplicit false
set_option linter.all false
set_option maxRecDepth 100000
set_option maxHeartbeats 4000000
/-! G: a small language of values (frozen data, cells of a store) in which the defs are run; what it leans on of the heap. -/
namespace G
open PySem PySem.Spec PyProof.Rows L2

def LIM : Nat := 1000000
theorem lim_le {n : Nat} (h : n ≤ LIM) : n ≤ sizeLine := Nat.le_trans h (by decide)
theorem lim_lt {n : Nat} (h : n < LIM) : n < sizeLine := Nat.lt_of_lt_of_le h (by decide)

/-! ### values, cells, stores -/
inductive D where
  | p (d : PyData)
  | o (n : Nat)
  | s (l : List PyData)
inductive Cell where
  | lst (xs : List D)
  | tup (xs : List D)
  | dct (kvs : List (Key × D))
  | ins (k : Nat) (fs : List (Str × D))
  | exn (k : Nat) (pl : Option D)
abbrev Sto := List (Option Cell)
abbrev Env := List (Option D)
structure Xn where
  c : Nat
  pl : Option D
inductive R (α : Type) where
  | ok (a : α) (s : Sto)
  | exc (x : Xn) (s : Sto)
  | bad
def R.bind {α β : Type} (r : R α) (f : α → Sto → R β) : R β := match r with
  | .ok a s => f a s
  | .exc x s => .exc x s
  | .bad => .bad
@[simp] theorem R.bind_ok {α β : Type} (a : α) (s : Sto) (f : α → Sto → R β) : (R.ok a s).bind f = f a s := rfl
@[simp] theorem R.bind_exc {α β : Type} (x : Xn) (s : Sto) (f : α → Sto → R β) : (R.exc x s : R α).bind f = .exc x s := rfl
@[simp] theorem R.bind_bad {α β : Type} (f : α → Sto → R β) : (R.bad : R α).bind f = .bad := rfl

theorem R.bind_assoc {α β γ : Type} (r : R α) (f : α → Sto → R β) (g : β → Sto → R γ) : (r.bind f).bind g = r.bind fun a s => (f a s).bind g := by
  cases r <;> rfl
def mapO {α β : Type} (f : α → Option β) : List α → Option (List β)
  | [] => some []
  | x :: xs => match f x, mapO f xs with
    | some y, some ys => some (y :: ys)
    | _, _ => none
def pOf : D → Option PyData
  | .p d => some d
  | _ => none
def allP (xs : List D) : Option (List PyData) := mapO pOf xs
theorem mapO_some {α β : Type} {f : α → Option β} : ∀ {l : List α} {r : List β}, mapO f l = some r → Paired (fun a b => f a = some b) l r
  | [], r, h => by
    cases h
    exact .nil
  | x :: xs, r, h => by
    simp only [mapO] at h
    cases e1 : f x with
    | none => rw [e1] at h; cases h
    | some y =>
      cases e2 : mapO f xs with
      | none => rw [e1, e2] at h; cases h
      | some ys =>
        rw [e1, e2] at h
        cases h
        exact .cons e1 (mapO_some e2)
theorem mapO_map {α β γ : Type} (f : β → Option γ) (g : α → β) (h : α → γ) (e : ∀ a, f (g a) = some (h a)) : ∀ l : List α, mapO f (l.map g) = some (l.map h)
  | [] => rfl
  | x :: xs => by simp only [List.map, mapO, e, mapO_map f g h e xs]
theorem allP_map (ds : List PyData) : allP (ds.map .p) = some ds := by
  have := mapO_map pOf D.p id (fun _ => rfl) ds
  simpa [allP] using this
theorem allP_some {xs : List D} {ds : List PyData} (h : allP xs = some ds) : xs = ds.map .p := by
  have q := mapO_some h
  clear h
  induction q with
  | nil => rfl
  | cons h t ih =>
    rename_i a b l1 l2
    cases a with
    | p d => cases h; rw [ih]; rfl
    | o n => cases h
    | s l => cases h

/-- the cell -/
def cel (s : Sto) (n : Nat) : Option Cell := match s[n]? with
  | some (some x) => some x
  | _ => none
theorem cel_some {s : Sto} {n : Nat} {x : Cell} (h : cel s n = some x) : s[n]? = some (some x) := by
  unfold cel at h
  split at h
  · cases h; assumption
  · cases h
/-- a list's items, a tuple's -/
def asL (s : Sto) : D → Option (List D)
  | .p (.list ds) => some (ds.map .p)
  | .o n => match cel s n with
    | some (.lst xs) => some xs
    | _ => none
  | _ => none
def asT (s : Sto) : D → Option (List D)
  | .p (.tuple ds) => some (ds.map .p)
  | .o n => match cel s n with
    | some (.tup xs) => some xs
    | _ => none
  | _ => none
/-- what stands behind it, all the way down -/
def res : Nat → Sto → D → Option PyData
  | _, _, .p d => some d
  | _, _, .s _ => none
  | 0, _, .o _ => none
  | k + 1, s, .o n => match cel s n with
    | some (.lst xs) => (mapO (res k s) xs).map .list
    | some (.tup xs) => (mapO (res k s) xs).map .tuple
    | _ => none
@[simp] theorem res_p (k : Nat) (s : Sto) (d : PyData) : res k s (.p d) = some d := by cases k <;> rfl
/-- the same, the cells taken out of the store -/
def frzL (f : D → Sto → Option (PyData × Sto)) : List D → Sto → Option (List PyData × Sto)
  | [], s => some ([], s)
  | x :: xs, s => match f x s with
    | some (d, s1) => (match frzL f xs s1 with
      | some (ds, s2) => some (d :: ds, s2)
      | none => none)
    | none => none
def frz : Nat → D → Sto → Option (PyData × Sto)
  | _, .p d, s => some (d, s)
  | _, .s _, _ => none
  | 0, .o _, _ => none
  | k + 1, .o n, s => match cel s n with
    | some (.lst xs) => (match frzL (frz k) xs (s.set n none) with
      | some (ds, s1) => some (.list ds, s1)
      | none => none)
    | some (.tup xs) => (match frzL (frz k) xs (s.set n none) with
      | some (ds, s1) => some (.tuple ds, s1)
      | none => none)
    | _ => none
def mkL (fl : Bool) (xs : List D) (s : Sto) : R D := if xs.length ≤ LIM then (match fl, allP xs with
  | false, some ds => .ok (.p (.list ds)) s
  | _, _ => .ok (.o s.length) (s ++ [some (.lst xs)])) else .bad
def mkT (xs : List D) (s : Sto) : R D := if xs.length ≤ LIM then (match allP xs with
  | some ds => .ok (.p (.tuple ds)) s
  | none => .ok (.o s.length) (s ++ [some (.tup xs)])) else .bad

/-! ### what stands in the heap for them -/
mutual
/-- frozen data: its lists stand in F themselves -/
inductive Dq (K : PySem.W.Frag) (F : Hp) : V → PyData → Prop
  | non : Dq K F .non .none
  | bl (b : Bool) : Dq K F (.bl b) (.bool b)
  | int (i : Int) : Dq K F (.int i) (.int i)
  | str (x : Str) : Dq K F (.str x) (.str x)
  | lst {a : Addr} {xs : List V} {ds : List PyData} : F a = some (.lst xs) → DqAll K F xs ds → Dq K F (.ref a) (.list ds)
  | tup {a : Addr} {xs : List V} {ds : List PyData} : SqT K F a xs → DqAll K F xs ds → Dq K F (.ref a) (.tuple ds)
inductive DqAll (K : PySem.W.Frag) (F : Hp) : List V → List PyData → Prop
  | nil : DqAll K F [] []
  | cons {v : V} {vs : List V} {d : PyData} {ds : List PyData} : Dq K F v d → DqAll K F vs ds → DqAll K F (v :: vs) (d :: ds)
end
structure Cf where
  F : Hp
  ι : List Addr
section
variable (K : PySem.W.Frag)
def RepV (c : Cf) : D → V → Prop
  | .p d, v => Dq K c.F v d
  | .o n, v => ∃ a, c.ι[n]? = some a ∧ v = .ref a
  | .s l, v => ∃ a vs, v = .ref a ∧ SqL K c.F a vs ∧ DqAll K c.F vs l
abbrev RepVs (c : Cf) : List D → List V → Prop := Paired (RepV K c)

end
end G

namespace G
open PySem PySem.Spec PyProof.Rows L2
section
variable {K : PySem.W.Frag} {cA : Nat → Addr}

theorem seqT_mono {H H' : Hp} {a : Addr} {xs : List V} (e : Same H H') (h : SqT K H a xs) : SqT K H' a xs := by
  rcases h with (h | ⟨o, h⟩) | h
  · exact .inl (.inl (e _ _ h))
  · exact .inl (.inr ⟨o, e _ _ h⟩)
  · exact .inr h
mutual
theorem dq_mono {F F' : Hp} (e : Same F F') : ∀ {v : V} {d : PyData}, Dq K F v d → Dq K F' v d
  | _, _, .non => .non
  | _, _, .bl b => .bl b
  | _, _, .int i => .int i
  | _, _, .str x => .str x
  | _, _, .lst h t => .lst (e _ _ h) (dqAll_mono e t)
  | _, _, .tup h t => .tup (seqT_mono e h) (dqAll_mono e t)
theorem dqAll_mono {F F' : Hp} (e : Same F F') : ∀ {vs : List V} {ds : List PyData}, DqAll K F vs ds → DqAll K F' vs ds
  | _, _, .nil => .nil
  | _, _, .cons h t => .cons (dq_mono e h) (dqAll_mono e t)
end
mutual
theorem dq_dp {F : Hp} : ∀ {v : V} {d : PyData}, Dq K F v d → Dp K F v d
  | _, _, .non => .non
  | _, _, .bl b => .bl b
  | _, _, .int i => .int i
  | _, _, .str x => .str x
  | _, _, .lst h t => .lst (SqL.of h) (dqAll_dp t)
  | _, _, .tup h t => .tup h (dqAll_dp t)
theorem dqAll_dp {F : Hp} : ∀ {vs : List V} {ds : List PyData}, DqAll K F vs ds → DpAll K F vs ds
  | _, _, .nil => .nil
  | _, _, .cons h t => .cons (dq_dp h) (dqAll_dp t)
end
theorem dqAll_of {c : Cf} : ∀ {ds : List PyData} {vs : List V}, RepVs K c (ds.map .p) vs → DqAll K c.F vs ds
  | [], _, .nil => .nil
  | _ :: _, _, .cons h t => .cons h (dqAll_of t)
theorem repVs_of {c : Cf} : ∀ {ds : List PyData} {vs : List V}, DqAll K c.F vs ds → RepVs K c (ds.map .p) vs
  | _, _, .nil => .nil
  | _, _, .cons h t => .cons h (repVs_of t)

structure Ext (c : Cf) (H : Hp) (c' : Cf) (H' : Hp) : Prop where
  f : Same c.F c'.F
  i : c.ι <+: c'.ι
  k : ∀ a o, H a = some o → c.F a = none → a ∉ c.ι → H' a = some o ∧ c'.F a = none ∧ a ∉ c'.ι
theorem Ext.refl (c : Cf) (H : Hp) : Ext c H c H := ⟨Same.refl _, List.prefix_refl _, fun _ _ h1 h2 h3 => ⟨h1, h2, h3⟩⟩
theorem Ext.trans {c c1 c2 : Cf} {H H1 H2 : Hp} (a : Ext c H c1 H1) (b : Ext c1 H1 c2 H2) : Ext c H c2 H2 :=
  ⟨a.f.trans b.f, a.i.trans b.i, fun x o h1 h2 h3 => by
    obtain ⟨g1, g2, g3⟩ := a.k x o h1 h2 h3
    exact b.k x o g1 g2 g3⟩
theorem Ext.ix {c c' : Cf} {H H' : Hp} (e : Ext c H c' H') {n : Nat} {a : Addr} (h : c.ι[n]? = some a) : c'.ι[n]? = some a := by
  obtain ⟨t, q⟩ := e.i
  rw [← q, List.getElem?_append_left]
  · exact h
  · exact (List.getElem?_eq_some_iff.mp h).1
theorem RepV.mono {c c' : Cf} {H H' : Hp} (e : Ext c H c' H') : ∀ {d : D} {v : V}, RepV K c d v → RepV K c' d v
  | .p _, _, h => dq_mono e.f h
  | .o _, _, ⟨a, h, q⟩ => ⟨a, e.ix h, q⟩
  | .s _, _, ⟨a, vs, h, q, r⟩ => ⟨a, vs, h, e.f.seq q, dqAll_mono e.f r⟩
theorem RepVs.mono {c c' : Cf} {H H' : Hp} (e : Ext c H c' H') : ∀ {ds : List D} {vs : List V}, RepVs K c ds vs → RepVs K c' ds vs
  | _, _, .nil => .nil
  | _, _, .cons h t => .cons (h.mono e) (RepVs.mono e t)

def exnO (a C : Addr) (d : Option Addr) : HO := .ext fun h => ∃ oe vs, h.get? a = some oe ∧ oe.cls = .ref C ∧ oe.dict = d ∧ oe.data = .fields vs
def RepK (K : PySem.W.Frag) (c : Cf) {κ : Type} : List (κ × D) → List (κ × V) → Prop := Paired fun p q => p.1 = q.1 ∧ RepV K c p.2 q.2
def RepC (K : PySem.W.Frag) (cA : Nat → Addr) (c : Cf) (a : Addr) : Cell → HO → Prop
  | .lst xs, u => ∃ vs, u = .lst vs ∧ RepVs K c xs vs
  | .tup xs, u => ∃ vs, u = .tup vs ∧ RepVs K c xs vs
  | .dct kvs, u => ∃ ws, u = .dK ws ∧ RepK K c kvs ws
  | .ins k fs, u => ∃ dx ws, u = .ins (cA k) dx ws ∧ RepK K c fs ws
  | .exn k pl, u => ∃ dd, u = exnO a (cA k) dd ∧ (match pl with
    | none => dd = none
    | some d => ∃ b v, dd = some b ∧ c.F b = some (.xd [(("wrong" : Str), v)]) ∧ RepV K c d v)
structure Rep (K : PySem.W.Frag) (cA : Nat → Addr) (c : Cf) (H : Hp) (s : Sto) : Prop where
  sub : Same c.F H
  len : c.ι.length = s.length
  nd : c.ι.Nodup
  dom : ∀ a ∈ c.ι, H a ≠ none
  cell : ∀ (n : Nat) (x : Cell) (a : Addr), s[n]? = some (some x) → c.ι[n]? = some a → c.F a = none ∧ ∃ u, H a = some u ∧ RepC K cA c a x u

theorem RepK.mono {κ : Type} {c c' : Cf} {H H' : Hp} (e : Ext c H c' H') : ∀ {ds : List (κ × D)} {vs : List (κ × V)}, RepK K c ds vs → RepK K c' ds vs
  | _, _, .nil => .nil
  | _, _, .cons h t => .cons ⟨h.1, h.2.mono e⟩ (RepK.mono e t)
theorem RepC.mono {c c' : Cf} {H H' : Hp} (e : Ext c H c' H') {a : Addr} {x : Cell} {u : HO} (h : RepC K cA c a x u) : RepC K cA c' a x u := by
  cases x with
  | lst xs => obtain ⟨vs, q, r⟩ := h; exact ⟨vs, q, r.mono e⟩
  | tup xs => obtain ⟨vs, q, r⟩ := h; exact ⟨vs, q, r.mono e⟩
  | dct xs => obtain ⟨vs, q, r⟩ := h; exact ⟨vs, q, RepK.mono e r⟩
  | ins k fs => obtain ⟨dx, vs, q, r⟩ := h; exact ⟨dx, vs, q, RepK.mono e r⟩
  | exn k pl =>
    obtain ⟨dd, q, r⟩ := h
    refine ⟨dd, q, ?_⟩
    cases pl with
    | none => trivial
    | some d =>
      obtain ⟨b, v, r1, r2, r3⟩ := r
      exact ⟨b, v, r1, e.f _ _ r2, r3.mono e⟩

variable {c c' : Cf} {H H' : Hp} {s : Sto}
theorem Rep.fresh (r : Rep K cA c H s) {p : Addr} (h : H p = none) : c.F p = none ∧ p ∉ c.ι := by
  refine ⟨?_, fun m => r.dom p m h⟩
  cases q : c.F p with
  | none => rfl
  | some o =>
    rw [r.sub p o q] at h
    cases h
/-- a new object stands beside -/
theorem Rep.grow (r : Rep K cA c H s) {p : Addr} {u : HO} (h : H p = none) : Rep K cA c (upd H p u) s := by
  obtain ⟨f1, f2⟩ := r.fresh h
  refine ⟨fun a o q => ?_, r.len, r.nd, fun a m => ?_, fun n x a h1 h2 => ?_⟩
  · rw [upd_ne (ne_of_none (r.sub a o q) h)]
    exact r.sub a o q
  · by_cases e : a = p
    · rw [e, upd_same]; simp
    · rw [upd_ne e]; exact r.dom a m
  · obtain ⟨g1, u', g2, g3⟩ := r.cell n x a h1 h2
    refine ⟨g1, u', ?_, g3⟩
    rw [upd_ne (ne_of_none g2 h)]
    exact g2
theorem Ext.grow {p : Addr} {u : HO} (h : H p = none) : Ext c H c (upd H p u) :=
  ⟨Same.refl _, List.prefix_refl _, fun a o h1 h2 h3 => ⟨by rw [upd_ne (ne_of_none h1 h)]; exact h1, h2, h3⟩⟩
/-- .. and is taken into the frozen part -/
theorem Rep.adF (r : Rep K cA c H s) {p : Addr} {u : HO} (h : H p = some u) (hf : c.F p = none) (hi : p ∉ c.ι) : Rep K cA ⟨upd c.F p u, c.ι⟩ H s := by
  have e : Ext c (fun _ => none) ⟨upd c.F p u, c.ι⟩ H := ⟨fun a o q => by
    show upd c.F p u a = some o
    rw [upd_ne (ne_of_none q hf)]
    exact q, List.prefix_refl _, fun a o z => by cases z⟩
  refine ⟨fun a o q => ?_, r.len, r.nd, r.dom, fun n x a h1 h2 => ?_⟩
  · have q' : upd c.F p u a = some o := q
    by_cases z : a = p
    · subst z
      rw [upd_same] at q'
      cases q'
      exact h
    · rw [upd_ne z] at q'
      exact r.sub a o q'
  · obtain ⟨g1, u', g2, g3⟩ := r.cell n x a h1 h2
    have ne : a ≠ p := fun z => hi (z ▸ List.mem_of_getElem? h2)
    refine ⟨?_, u', g2, g3.mono e⟩
    show upd c.F p u a = none
    rw [upd_ne ne]
    exact g1
theorem Ext.adF {c0 : Cf} {H0 : Hp} (e : Ext c0 H0 c H) {p : Addr} {u : HO} (hf : c.F p = none) (h0 : H0 p = none) : Ext c0 H0 ⟨upd c.F p u, c.ι⟩ H := by
  refine ⟨fun a o q => ?_, e.i, fun a o h1 h2 h3 => ?_⟩
  · show upd c.F p u a = some o
    have q' := e.f a o q
    rw [upd_ne (ne_of_none q' hf)]
    exact q'
  · obtain ⟨g1, g2, g3⟩ := e.k a o h1 h2 h3
    refine ⟨g1, ?_, g3⟩
    show upd c.F p u a = none
    rw [upd_ne (ne_of_none h1 h0)]
    exact g2
/-- .. or as a cell -/
theorem Rep.adC (r : Rep K cA c H s) {p : Addr} {u : HO} {x : Cell} (h : H p = some u) (hf : c.F p = none) (hi : p ∉ c.ι) (hx : RepC K cA ⟨c.F, c.ι ++ [p]⟩ p x u) : Rep K cA ⟨c.F, c.ι ++ [p]⟩ H (s ++ [some x]) := by
  have e : Ext c (fun _ => none) ⟨c.F, c.ι ++ [p]⟩ H := ⟨Same.refl _, List.prefix_append _ _, fun a o z => by cases z⟩
  refine ⟨r.sub, ?_, ?_, fun a m => ?_, fun n y a h1 h2 => ?_⟩
  · show (c.ι ++ [p]).length = _
    rw [List.length_append, List.length_append, r.len]
    rfl
  · show (c.ι ++ [p]).Nodup
    rw [List.nodup_append]
    refine ⟨r.nd, by simp, fun a m b n z => ?_⟩
    simp only [List.mem_singleton] at n
    subst n
    subst z
    exact hi m
  · have m' : a ∈ c.ι ++ [p] := m
    rcases List.mem_append.mp m' with m | m
    · exact r.dom a m
    · simp only [List.mem_singleton] at m
      rw [m, h]
      simp
  · have h2' : (c.ι ++ [p])[n]? = some a := h2
    by_cases q : n < s.length
    · rw [List.getElem?_append_left q] at h1
      rw [List.getElem?_append_left (by rw [r.len]; exact q)] at h2'
      obtain ⟨g1, u', g2, g3⟩ := r.cell n y a h1 h2'
      exact ⟨g1, u', g2, g3.mono e⟩
    · rw [List.getElem?_append_right (by omega)] at h1
      rw [List.getElem?_append_right (by rw [r.len]; omega)] at h2'
      have n0 : n - s.length = 0 := by
        by_cases z : n - s.length = 0
        · exact z
        · rw [List.getElem?_eq_none (by simp; omega)] at h1
          cases h1
      rw [n0] at h1
      rw [r.len, n0] at h2'
      cases h1
      cases h2'
      exact ⟨hf, u, h, hx⟩
theorem Ext.adC {c0 : Cf} {H0 : Hp} (e : Ext c0 H0 c H) {p : Addr} (h0 : H0 p = none) : Ext c0 H0 ⟨c.F, c.ι ++ [p]⟩ H := by
  refine ⟨e.f, e.i.trans (List.prefix_append _ _), fun a o h1 h2 h3 => ?_⟩
  obtain ⟨g1, g2, g3⟩ := e.k a o h1 h2 h3
  refine ⟨g1, g2, fun m => ?_⟩
  rcases List.mem_append.mp (show a ∈ c.ι ++ [p] from m) with m | m
  · exact g3 m
  · simp only [List.mem_singleton] at m
    rw [m, h0] at h1
    cases h1
/-- a cell is written -/
theorem Rep.wr (r : Rep K cA c H s) {n : Nat} {a : Addr} {x0 x : Cell} {u : HO} (hn : s[n]? = some (some x0)) (ha : c.ι[n]? = some a) (hx : RepC K cA c a x u) : Rep K cA c (upd H a u) (s.set n (some x)) := by
  obtain ⟨f0, _⟩ := r.cell n x0 a hn ha
  have hlt : n < s.length := (List.getElem?_eq_some_iff.mp hn).1
  refine ⟨fun b o q => ?_, by rw [List.length_set]; exact r.len, r.nd, fun b m => ?_, fun k y b h1 h2 => ?_⟩
  · rw [upd_ne (ne_of_none q f0)]
    exact r.sub b o q
  · by_cases z : b = a
    · rw [z, upd_same]; simp
    · rw [upd_ne z]; exact r.dom b m
  · by_cases z : k = n
    · subst z
      rw [List.getElem?_set_self hlt] at h1
      cases h1
      rw [ha] at h2
      cases h2
      exact ⟨f0, u, upd_same, hx⟩
    · rw [List.getElem?_set_ne (Ne.symm z)] at h1
      obtain ⟨g1, u', g2, g3⟩ := r.cell k y b h1 h2
      have ne : b ≠ a := fun q => z (by
        subst q
        obtain ⟨l1, e1⟩ := List.getElem?_eq_some_iff.mp h2
        obtain ⟨l2, e2⟩ := List.getElem?_eq_some_iff.mp ha
        exact (List.getElem_inj r.nd).mp (e1.trans e2.symm))
      refine ⟨g1, u', ?_, g3⟩
      rw [upd_ne ne]
      exact g2
theorem Ext.wr (r : Rep K cA c H s) {n : Nat} {a : Addr} {u : HO} (ha : c.ι[n]? = some a) : Ext c H c (upd H a u) :=
  ⟨Same.refl _, List.prefix_refl _, fun b o h1 h2 h3 => ⟨by
    have ne : b ≠ a := fun z => h3 (by rw [z]; exact List.mem_of_getElem? ha)
    rw [upd_ne ne]
    exact h1, h2, h3⟩⟩
/-- a cell is forgotten -/
theorem Rep.drop (r : Rep K cA c H s) {n : Nat} : Rep K cA c H (s.set n none) := by
  refine ⟨r.sub, by rw [List.length_set]; exact r.len, r.nd, r.dom, fun k y b h1 h2 => ?_⟩
  by_cases z : k = n
  · subst z
    by_cases q : k < s.length
    · rw [List.getElem?_set_self q] at h1
      cases h1
    · rw [List.getElem?_eq_none (by rw [List.length_set]; omega)] at h1
      cases h1
  · rw [List.getElem?_set_ne (Ne.symm z)] at h1
    exact r.cell k y b h1 h2
/-- a forgotten cell goes into the frozen part -/
theorem Rep.fzc (r : Rep K cA c H s) {n : Nat} {a : Addr} {u : HO} (ha : c.ι[n]? = some a) (h : H a = some u) (hf : c.F a = none) (hs : ∀ y : Cell, s[n]? ≠ some (some y)) : Rep K cA ⟨upd c.F a u, c.ι⟩ H s ∧ Ext c H ⟨upd c.F a u, c.ι⟩ H := by
  have e : Ext c H ⟨upd c.F a u, c.ι⟩ H := ⟨fun b o q => by
    show upd c.F a u b = some o
    rw [upd_ne (ne_of_none q hf)]
    exact q, List.prefix_refl _, fun b o h1 h2 h3 => ⟨h1, by
      show upd c.F a u b = none
      have ne : b ≠ a := fun z => h3 (by rw [z]; exact List.mem_of_getElem? ha)
      rw [upd_ne ne]
      exact h2, h3⟩⟩
  refine ⟨⟨fun b o q => ?_, r.len, r.nd, r.dom, fun k y b h1 h2 => ?_⟩, e⟩
  · have q' : upd c.F a u b = some o := q
    by_cases z : b = a
    · subst z
      rw [upd_same] at q'
      cases q'
      exact h
    · rw [upd_ne z] at q'
      exact r.sub b o q'
  · obtain ⟨g1, u', g2, g3⟩ := r.cell k y b h1 h2
    have ne : b ≠ a := fun q => by
      subst q
      obtain ⟨l1, e1⟩ := List.getElem?_eq_some_iff.mp h2
      obtain ⟨l2, e2⟩ := List.getElem?_eq_some_iff.mp ha
      have kn : k = n := (List.getElem_inj r.nd).mp (e1.trans e2.symm)
      subst kn
      exact hs y h1
    refine ⟨?_, u', g2, g3.mono e⟩
    show upd c.F a u b = none
    rw [upd_ne ne]
    exact g1
/-- what a cell's name stands for -/
theorem Rep.at (r : Rep K cA c H s) {n : Nat} {x : Cell} {v : V} (hc : cel s n = some x) (hv : RepV K c (.o n) v) : ∃ a u, v = .ref a ∧ c.ι[n]? = some a ∧ s[n]? = some (some x) ∧ H a = some u ∧ c.F a = none ∧ RepC K cA c a x u := by
  obtain ⟨a, ha, rfl⟩ := hv
  obtain ⟨f, u, h, q⟩ := r.cell n x a (cel_some hc) ha
  exact ⟨a, u, rfl, ha, cel_some hc, h, f, q⟩
theorem Rep.asL (r : Rep K cA c H s) {d : D} {v : V} {xs : List D} (hd : asL s d = some xs) (hv : RepV K c d v) : ∃ a vs, v = .ref a ∧ H a = some (.lst vs) ∧ RepVs K c xs vs := by
  cases d with
  | p d =>
    cases d with
    | list ds =>
      cases hd
      cases hv with
      | lst h t => exact ⟨_, _, rfl, r.sub _ _ h, repVs_of t⟩
    | _ => cases hd
  | s l => cases hd
  | o n =>
    unfold G.asL at hd
    dsimp only at hd
    split at hd
    · rename_i ys e
      cases hd
      obtain ⟨a, u, e1, e2, e3, e4, e5, vs, e6, e7⟩ := r.at e hv
      subst e6
      exact ⟨a, vs, e1, e4, e7⟩
    · cases hd
theorem Rep.asT (r : Rep K cA c H s) {d : D} {v : V} {xs : List D} (hd : asT s d = some xs) (hv : RepV K c d v) : ∃ a vs, v = .ref a ∧ SqT K H a vs ∧ RepVs K c xs vs := by
  cases d with
  | p d =>
    cases d with
    | tuple ds =>
      cases hd
      cases hv with
      | tup h t => exact ⟨_, _, rfl, seqT_mono r.sub h, repVs_of t⟩
    | _ => cases hd
  | s l => cases hd
  | o n =>
    unfold G.asT at hd
    dsimp only at hd
    split at hd
    · rename_i ys e
      cases hd
      obtain ⟨a, u, e1, e2, e3, e4, e5, vs, e6, e7⟩ := r.at e hv
      subst e6
      exact ⟨a, vs, e1, SqT.of e4, e7⟩
    · cases hd
/-- all the way down -/
theorem Rep.res (r : Rep K cA c H s) : ∀ (k : Nat) {d : D} {v : V} {q : PyData}, res k s d = some q → RepV K c d v → Dp K H v q
  | k, .p d, v, q, h, hv => by
    rw [res_p] at h
    cases h
    exact dq_dp (dq_mono r.sub hv)
  | k, .s l, v, q, h, hv => by cases k <;> cases h
  | 0, .o n, v, q, h, hv => by cases h
  | k + 1, .o n, v, q, h, hv => by
    have all : ∀ {xs : List D} {ds : List PyData} {vs : List V}, Paired (fun a b => G.res k s a = some b) xs ds → RepVs K c xs vs → DpAll K H vs ds := by
      intro xs ds vs h1
      induction h1 generalizing vs with
      | nil => intro h2; cases h2; exact .nil
      | cons g t ih =>
        intro h2
        cases h2 with
        | cons h3 h4 => exact .cons (Rep.res r k g h3) (ih h4)
    unfold G.res at h
    split at h
    · rename_i xs e
      obtain ⟨a, u, rfl, e2, e3, e4, e5, vs, rfl, e7⟩ := r.at e hv
      cases z : mapO (G.res k s) xs with
      | none => rw [z] at h; cases h
      | some ds =>
        rw [z] at h
        cases h
        exact .lst (SqL.of e4) (all (mapO_some z) e7)
    · rename_i xs e
      obtain ⟨a, u, rfl, e2, e3, e4, e5, vs, rfl, e7⟩ := r.at e hv
      cases z : mapO (G.res k s) xs with
      | none => rw [z] at h; cases h
      | some ds =>
        rw [z] at h
        cases h
        exact .tup (SqT.of e4) (all (mapO_some z) e7)
    · cases h
end
end G

namespace G
open PySem PySem.Spec PyProof.Rows L2
open Classical
noncomputable section

inductive Bop | add | sub | mul | fdiv | mod | pow
inductive Cop | eq | ne | lt | le | gt | ge | is_ | isn | in_ | nin
inductive Ty | int | bool | str | tuple | list | dict | own (k : Nat)
inductive Bi | len | list | tuple | abs | min | max | int | repr | all | any | sum | sorted | dict | str
inductive Tg | nm (i : Nat) | tp (is : List Nat)
mutual
inductive E
  | nv
  | v (i : Nat)
  | k (d : PyData)
  | g (i : Nat)
  | tup (es : Es)
  | lst (fl : Bool) (es : Es)
  | dnew
  | bin (op : Bop) (fl : Bool) (a b : E)
  | neg (a : E)
  | nt (a : E)
  | cmp (op : Cop) (a b : E)
  | chn (o1 o2 : Cop) (a b c : E)
  | an (a b : E)
  | orr (a b : E)
  | ife (c a b : E)
  | ix (a i : E)
  | sl (fl : Bool) (a : E) (lo hi : Eo)
  | rev (fl : Bool) (a : E)
  | call (f : Nat) (es : Es)
  | bi (b : Bi) (fl : Bool) (a : E)
  | bi2 (b : Bi) (a c : E)
  | isi (a : E) (t : Ty)
  | isx (a : E) (k : Option Nat)
  | app (a x : E)
  | ins (a i x : E)
  | lc (fl : Bool) (el : E) (ow : List Nat) (tg : Tg) (it : It) (c : Eo)
  | lc2 (fl : Bool) (el : E) (ow : List Nat) (tg : Tg) (it : It) (tg2 : Tg) (it2 : It) (ow2 : List Nat) (c : Eo)
  | lck (fl : Bool) (el : E) (ow : List Nat) (tg : Tg) (a : E) (c : Eo)
  | frz (a : E)
  | fld (a : E) (f : Str)
  | ifd (k : Nat) (a : E) (f : Str)
  | mk (k f : Nat) (es : Es)
  | mc (k : Nat) (m : Str) (f : Nat) (a : E) (es : Es)
  | dsp (k v : E)
  | callk (f : Nat) (es zs : Es)
  | up (a : E)
  | dix (d k : E)
  | dgt (d k z : E)
  | din (ng : Bool) (k d : E)
  | sit (fl : Bool) (d : E)
  | lit (fl : Bool) (d : E)
  | srs (fl : Bool) (a : E)
  | lns (a : E)
  | dc (kx vx : E) (ow : List Nat) (tg : Tg) (it : It) (c : Eo)
  | idx (a x : E)
  | cnt (a x : E)
  | lrg (fl : Bool) (a : E)
  | clr (d : E)
inductive Es
  | nil
  | cons (e : E) (es : Es)
inductive Eo
  | no
  | so (e : E)
inductive It
  | seq (e : E)
  | rng (a : E)
  | rng2 (a b : E)
  | enu (a : E)
  | dk (d : E)
  | dit (d : E)
  | zip (a b : E)
end
mutual
inductive S
  | nv
  | asg (tg : Tg) (e : E)
  | seti (a i e : E)
  | setf (k : Nat) (a : E) (f : Str) (e : E)
  | aug (i : Nat) (op : Bop) (e : E)
  | ex (e : E)
  | ret (e : E)
  | retN
  | ifs (c : E) (a b : Ss)
  | for_ (tg : Tg) (it : It) (b : Ss)
  | whl (c : E) (b : Ss)
  | pass
  | brk
  | cnt
  | raiseM (k : Nat)
  | raiseV (k f : Nat) (e : E)
  | raiseK (k f : Nat) (e : E)
  | raise0 (k : Nat)
  | raiseT (k : Nat) (e : E)
  | tryC (b : Ss) (k : Nat) (x i : Nat)
  | dput (d k e : E)
  | daug (d k : E) (op : Bop) (e : E)
  | gz (i : Nat) (m : S)
  | par (i j : Nat) (a b : E)
inductive Ss
  | nil
  | cons (s : S) (ss : Ss)
end

/-! ### the operations -/
def dInt : D → Option Int
  | .p (.int i) => some i
  | _ => none
def dBool : D → Option Bool
  | .p (.bool b) => some b
  | _ => none
def dStr : D → Option Str
  | .p (.str x) => some x
  | _ => none
def binop (op : Bop) (fl : Bool) (x y : D) (s : Sto) : R D := match op, dInt x, dInt y with
  | .add, some i, some j => .ok (.p (.int (i + j))) s
  | .sub, some i, some j => .ok (.p (.int (i - j))) s
  | .mul, some i, some j => if CMul i j ∨ CMulW i j then .ok (.p (.int (i * j))) s else .bad
  | .fdiv, some i, some j => if 0 < j ∧ (j < 1073741824 ∨ j.natAbs.log2 < 9000) then .ok (.p (.int (i / j))) s else .bad
  | .mod, some i, some j => if 0 < j then .ok (.p (.int (i % j))) s else .bad
  | .pow, some i, some j => if 0 ≤ j ∧ (Builtin.Int.intBits i : Int) * j ≤ 2 ^ 27 then .ok (.p (.int (i ^ j.toNat))) s else .bad
  | .add, _, _ => (match asL s x, asL s y with
    | some xs, some ys => mkL fl (xs ++ ys) s
    | _, _ => (match dStr x, dStr y with
      | some a, some b => if a.length + b.length ≤ LIM then .ok (.p (.str (a ++ b))) s else .bad
      | _, _ => .bad))
  | .mul, _, some k => (match asL s x with
    | some xs => if 0 ≤ k ∧ k ≤ 1000 ∧ xs.length ≤ 1000 then mkL fl (List.replicate k.toNat xs).flatten s else .bad
    | _ => .bad)
  | _, _, _ => .bad
def cmpI (op : Cop) (i j : Int) : Option Bool := match op with
  | .lt => some (decide (i < j))
  | .le => some (decide (i ≤ j))
  | .gt => some (decide (j < i))
  | .ge => some (decide (j ≤ i))
  | _ => none
def sEs : D → D → Option Bool
  | .p (.str a), .p (.str b) => some (decide (a = b))
  | _, _ => none
def sEr (x y : D) (s : Sto) : Option Bool := match res 8 s x, res 8 s y with
  | some a, some b => if SeqAt.shaped a = true ∧ SeqAt.shaped b = true then some (PyData.eqv a b) else none
  | _, _ => none
def sEq (x y : D) (s : Sto) : Option Bool := match sEs x y with
  | some b => some b
  | none => sEr x y s
def sIn (x y : D) (s : Sto) : Option Bool := match res 8 s x, y with
  | some (.str a), .p (.str z) => if a.cps.size = 1 then some (decide (a.cps.getD 0 0 ∈ z.cps.toList)) else none
  | some a, _ => (match res 8 s y with
    | some (.list ds) => if SeqAt.shaped a = true ∧ SeqAt.shaped (.list ds) = true then some (ds.any fun z => PyData.eqv z a) else none
    | some (.tuple ds) => if SeqAt.shaped a = true ∧ SeqAt.shaped (.tuple ds) = true then some (ds.any fun z => PyData.eqv z a) else none
    | _ => none)
  | _, _ => none
def bR (b : Option Bool) (s : Sto) : R D := match b with
  | some b => .ok (.p (.bool b)) s
  | none => .bad
def isNone : D → Bool
  | .p .none => true
  | _ => false
def cmpop (op : Cop) (x y : D) (s : Sto) : R D := match op with
  | .eq => bR (sEq x y s) s
  | .ne => bR ((sEq x y s).map not) s
  | .is_ => if isNone y = true then .ok (.p (.bool (isNone x))) s else .bad
  | .isn => if isNone y = true then .ok (.p (.bool (!isNone x))) s else .bad
  | .in_ => bR (sIn x y s) s
  | .nin => bR ((sIn x y s).map not) s
  | op => (match dInt x, dInt y with
    | some i, some j => bR (cmpI op i j) s
    | _, _ => (match op, dStr x, dStr y with
      | .lt, some i, some j => .ok (.p (.bool (decide (i.cps.toList < j.cps.toList)))) s
      | .le, some i, some j => .ok (.p (.bool (!decide (j.cps.toList < i.cps.toList)))) s
      | _, _, _ => .bad))
def asSq (s : Sto) (x : D) : Option (List D) := match asL s x with
  | some xs => some xs
  | none => asT s x
def ixop (x y : D) (s : Sto) : R D := match dInt y, asSq s x with
  | some i, some xs => (match atI xs i with
    | some v => .ok v s
    | none => .bad)
  | _, _ => .bad
def cutD (xs : List D) (lo hi : Option Int) : List D := (xs.drop (HT.sIx xs.length 0 lo)).take (HT.sIx xs.length xs.length hi - HT.sIx xs.length 0 lo)
def slop (fl : Bool) (x : D) (lo hi : Option Int) (s : Sto) : R D := match x with
  | .s l => mkL fl (cutD (l.map .p) lo hi) s
  | .p (.str z) => if z.length ≤ LIM then .ok (.p (.str (L2.cutS z lo hi))) s else .bad
  | x => (match asL s x with
    | some xs => mkL fl (cutD xs lo hi) s
    | none => .bad)
/-- a.upper() -/
def upop (x : D) (s : Sto) : R D := match x with
  | .p (.str z) => if z.length ≤ LIM then .ok (.p (.str (Txt.upper z))) s else .bad
  | _ => .bad
def revop (fl : Bool) (x : D) (s : Sto) : R D := match asL s x with
  | some xs => mkL fl xs.reverse s
  | none => .bad
def tyOf (s : Sto) : D → Option Ty
  | .p .none => none
  | .p (.bool _) => some .bool
  | .p (.int _) => some .int
  | .p (.str _) => some .str
  | .p (.list _) => some .list
  | .p (.tuple _) => some .tuple
  | .p (.dict _) => none
  | .s _ => none
  | .o n => match cel s n with
    | some (.lst _) => some .list
    | some (.tup _) => some .tuple
    | some (.dct _) => some .dict
    | some (.exn k _) => some (.own k)
    | _ => none
def tyName : Ty → String
  | .int => "int"
  | .bool => "bool"
  | .str => "str"
  | .tuple => "tuple"
  | .list => "list"
  | .dict => "dict"
  | .own _ => ""
/-- isinstance(x, t), t a built-in class -/
def isiB (s : Sto) (x : D) (t : Ty) : Option Bool := match x with
  | .p .none => some false
  | _ => match tyOf s x with
    | some .bool => some (tyName t == "bool" || tyName t == "int")
    | some (.own _) => none
    | some u => some (tyName u == tyName t)
    | none => none
def isiop (s : Sto) (x : D) (t : Ty) : R D := match t with
  | .own _ => .bad
  | t => bR (isiB s x t) s
def intsO (xs : List D) : Option (List Int) := mapO dInt xs
def boolsO (xs : List D) : Option (List Bool) := mapO dBool xs
def leastI : Int → List Int → Int
  | a, [] => a
  | a, b :: l => leastI (if b < a then b else a) l
def mostI : Int → List Int → Int
  | a, [] => a
  | a, b :: l => mostI (if a < b then b else a) l
/-- what repr tells of: a display of plain things that is not too long -/
def RpOk (d : PyData) : Prop := d.showable = true ∧ d.hasDict = false ∧ d.depth ≤ 60 ∧ d.shown.length ≤ sizeLine
/-- xs.append(y), xs.insert(i, y) -/
def appop (x y : D) (s : Sto) : R D := match x with
  | .o n => (match cel s n with
    | some (.lst xs) => if xs.length < LIM then .ok (.p .none) (s.set n (some (.lst (xs ++ [y])))) else .bad
    | _ => .bad)
  | _ => .bad
def insop (x i y : D) (s : Sto) : R D := match x, dInt i with
  | .o n, some i => (match cel s n with
    | some (.lst xs) => if xs.length < LIM ∧ 0 ≤ i ∧ i ≤ (LIM : Int) then .ok (.p .none) (s.set n (some (.lst (xs.take i.toNat ++ [y] ++ xs.drop i.toNat)))) else .bad
    | _ => .bad)
  | _, _ => .bad
/-- x[i] = y -/
def setop (x i y : D) (s : Sto) : R Unit := match x, dInt i with
  | .o n, some i => (match cel s n with
    | some (.lst xs) => (match ixN xs.length i with
      | some j => .ok () (s.set n (some (.lst (xs.set j y))))
      | none => .bad)
    | _ => .bad)
  | _, _ => .bad
def putD (f : Str) (v : D) : List (Str × D) → List (Str × D)
  | [] => [(f, v)]
  | (g, w) :: r => if g = f then (f, v) :: r else (g, w) :: putD f v r
def fldop (sb : Nat → Nat → Option Bool) (x : D) (f : Str) (s : Sto) : R D := match x with
  | .o n => (match cel s n with
    | some (.exn c (some d)) => if f = ("wrong" : Str) ∧ (sb c c).isSome = true then .ok d s else .bad
    | _ => .bad)
  | _ => .bad
def setfop (k : Nat) (x : D) (f : Str) (y : D) (s : Sto) : R Unit := match x with
  | .o n => (match cel s n with
    | some (.ins k' fs) => if k' = k ∧ fs.length < 900 then .ok () (s.set n (some (.ins k' (putD f y fs)))) else .bad
    | _ => .bad)
  | _ => .bad

def ifdop (k : Nat) (x : D) (f : Str) (s : Sto) : R D := match x with
  | .o n => (match cel s n with
    | some (.ins k' fs) => if k' = k then (match fs.lookup f with
      | some d => .ok d s
      | none => .bad) else .bad
    | _ => .bad)
  | _ => .bad
/-! dicts -/
def keyD : D → Option Key
  | .p (.int i) => some (.inl i)
  | .p (.str z) => some (.inr z)
  | _ => none
def keyP : Key → PyData
  | .inl i => .int i
  | .inr z => .str z
def valD (kvs : List (Key × D)) (k : Key) : Option D := (kvs.find? fun kv => decide (kv.1 = k)).map (·.2)
def putKD (kvs : List (Key × D)) (k : Key) (v : D) : List (Key × D) := if (kvs.any fun kv => decide (kv.1 = k)) = true then kvs.map (fun kv => if kv.1 = k then (kv.1, v) else kv) else kvs ++ [(k, v)]
def mergeKD (kvs more : List (Key × D)) : List (Key × D) := more.foldl (fun acc kv => putKD acc kv.1 kv.2) kvs
def asD (s : Sto) : D → Option (List (Key × D))
  | .o n => match cel s n with
    | some (.dct kvs) => some kvs
    | _ => none
  | _ => none
def dixop (x y : D) (s : Sto) : R D := match asD s x, keyD y with
  | some kvs, some k => (match valD kvs k with
    | some v => .ok v s
    | none => .bad)
  | _, _ => .bad
def dgtop (x y z : D) (s : Sto) : R D := match asD s x, keyD y with
  | some kvs, some k => .ok ((valD kvs k).getD z) s
  | _, _ => .bad
def dinop (ng : Bool) (y x : D) (s : Sto) : R D := match asD s x, keyD y with
  | some kvs, some k => .ok (.p (.bool (if ng = true then !(valD kvs k).isSome else (valD kvs k).isSome))) s
  | _, _ => .bad
def dputop (x y v : D) (s : Sto) : R Unit := match x, asD s x, keyD y with
  | .o n, some kvs, some k => if kvs.length < LIM then .ok () (s.set n (some (.dct (putKD kvs k v)))) else .bad
  | _, _, _ => .bad
/-- what can be sorted: data alike, of a kind -/
def SrtOk (ds : List PyData) : Prop := PySem.W.AllAlike ds ∧ PySem.W.Sortable ds ∧ ∀ d ∈ ds, d.depth ≤ 60
def srtD (ds : List PyData) : List PyData := ds.mergeSort (PySem.W.dataLe false id)
def srtop (fl : Bool) (ds : List PyData) (s : Sto) : R D := if SrtOk ds then mkL fl ((srtD ds).map .p) s else .bad
def valsP (kvs : List (Key × D)) : Option (List (Key × PyData)) := mapO (fun kv => (pOf kv.2).map fun d => (kv.1, d)) kvs
def itemP (kv : Key × PyData) : PyData := .tuple [keyP kv.1, kv.2]
def sitop (fl : Bool) (x : D) (s : Sto) : R D := match (asD s x).bind valsP with
  | some kvs => if kvs.length < LIM then srtop fl (kvs.map itemP) s else .bad
  | none => .bad
def litop (fl : Bool) (x : D) (s : Sto) : R D := match (asD s x).bind valsP with
  | some kvs => if kvs.length < LIM then mkL fl (kvs.map fun kv => .p (itemP kv)) s else .bad
  | none => .bad
/-- the different ones, rising -/
def dd {α : Type} [DecidableEq α] : List α → List α
  | [] => []
  | x :: xs => if x ∈ xs then dd xs else x :: dd xs
def setI (l : List Int) : List Int := (dd l).mergeSort fun a b => decide (a ≤ b)
def srsop (fl : Bool) (x : D) (s : Sto) : R D := match (asL s x).bind intsO with
  | some l => if l.length ≤ 60 then mkL fl ((setI l).map fun i => .p (.int i)) s else .bad
  | none => .bad
def lnsop (x : D) (s : Sto) : R D := match (asL s x).bind intsO with
  | some l => if l.length ≤ 60 then .ok (.p (.int ((dd l).length : Int))) s else .bad
  | none => .bad
/-- xs.index(y), the y there -/
def idxop (x y : D) (s : Sto) : R D := match res 8 s x, res 8 s y with
  | some (.list ds), some d => if SeqAt.shaped (.list ds) = true ∧ SeqAt.shaped d = true then (match ds.findIdx? (fun z => PyData.eqv z d) with
    | some j => .ok (.p (.int (j : Int))) s
    | none => .bad) else .bad
  | _, _ => .bad
def cntop (x y : D) (s : Sto) : R D := match (asL s x).bind intsO, dInt y with
  | some l, some k => .ok (.p (.int (l.count k : Nat))) s
  | _, _ => .bad
def clrop (x : D) (s : Sto) : R D := match x, asD s x with
  | .o n, some _ => .ok (.p .none) (s.set n (some (.dct [])))
  | _, _ => .bad
/-- dict(pairs) -/
def pairsD (s : Sto) (xs : List D) : Option (List (Key × D)) := mapO (fun x => match asT s x with
  | some [k, v] => (keyD k).map fun q => (q, v)
  | _ => none) xs
def dictop (x : D) (s : Sto) : R D := match (asL s x).bind (pairsD s) with
  | some kvs => .ok (.o s.length) (s ++ [some (.dct (mergeKD [] kvs))])
  | none => .bad
def mn2op (mx : Bool) (x y : D) (s : Sto) : R D := match dInt x, dInt y with
  | some i, some j => .ok (.p (.int (if mx = true then (if i < j then j else i) else (if j < i then j else i)))) s
  | _, _ => .bad

def biop (b : Bi) (fl : Bool) (x : D) (s : Sto) : R D := match b with
  | .len => (match asSq s x with
    | some xs => .ok (.p (.int (xs.length : Int))) s
    | none => (match dStr x with
      | some z => if z.length ≤ LIM then .ok (.p (.int (z.length : Int))) s else .bad
      | none => .bad))
  | .list => (match asSq s x with
    | some xs => mkL fl xs s
    | none => .bad)
  | .tuple => (match asL s x with
    | some xs => mkT xs s
    | none => (match asT s x with
      | some _ => .ok x s
      | none => .bad))
  | .abs => (match dInt x with
    | some i => .ok (.p (.int (if i < 0 then -i else i))) s
    | none => .bad)
  | .min => (match (asSq s x).bind intsO with
    | some (i :: l) => .ok (.p (.int (leastI i l))) s
    | _ => .bad)
  | .max => (match (asSq s x).bind intsO with
    | some (i :: l) => .ok (.p (.int (mostI i l))) s
    | _ => .bad)
  | .sum => (match (asL s x).bind intsO with
    | some l => .ok (.p (.int l.sum)) s
    | _ => .bad)
  | .int => (match dInt x, dBool x with
    | some i, _ => .ok (.p (.int i)) s
    | _, some b => .ok (.p (.int (if b then 1 else 0))) s
    | _, _ => .bad)
  | .all => (match (asL s x).bind boolsO with
    | some l => .ok (.p (.bool (l.all id))) s
    | none => .bad)
  | .any => (match (asL s x).bind boolsO with
    | some l => .ok (.p (.bool (l.any id))) s
    | none => .bad)
  | .str => (match res 8 s x with
    | some (.str z) => .ok (.p (.str z)) s
    | some d => if RpOk d then .ok (.p (.str d.shown)) s else .bad
    | none => .bad)
  | .repr => (match res 8 s x with
    | some d => if RpOk d then .ok (.p (.str d.shown)) s else .bad
    | none => .bad)
  | .sorted => (match (asL s x).bind allP with
    | some ds => if ds.length ≤ LIM then srtop fl ds s else .bad
    | none => (match asD s x with
      | some kvs => if kvs.length < 64 then srtop fl (kvs.map fun kv => keyP kv.1) s else .bad
      | none => .bad))
  | .dict => dictop x s

/-! ### items, targets -/
inductive Item
  | one (d : D)
  | tp (ds : List D)
def setAll : List Nat → List D → Env → Option Env
  | [], [], e => some e
  | i :: is, d :: ds, e => if i < e.length then setAll is ds (e.set i (some d)) else none
  | _, _, _ => none
def bindT (t : Tg) (x : Item) (s : Sto) (e : Env) : Option Env := match t, x with
  | .nm i, .one d => if i < e.length then some (e.set i (some d)) else none
  | .tp is, .tp ds => if is.length = ds.length then setAll is ds e else none
  | .tp is, .one d => (match asSq s d with
    | some ds => if is.length = ds.length then setAll is ds e else none
    | none => none)
  | _, _ => none
def enumI : Nat → List D → List Item
  | _, [] => []
  | i, x :: xs => .tp [.p (.int (i : Int)), x] :: enumI (i + 1) xs
def wipeE (e : Env) : List Nat → Env
  | [] => e
  | v :: vs => (wipeE e vs).set v none

/-! ### expressions -/
/-- isinstance(x, t), t an own exception class or ValueError -/
def isiX (sb : Nat → Nat → Option Bool) (s : Sto) (x : D) (t : Option Nat) : Option Bool := match x, t with
  | .p .none, some k => (sb k k).map fun _ => false
  | .p .none, none => some false
  | .o n, some k => (match cel s n with
    | some (.exn c _) => sb c k
    | _ => none)
  | .o n, none => (match cel s n with
    | some (.exn c _) => (sb c c).map fun _ => true
    | _ => none)
  | _, _ => none
structure Pg where
  sb : Nat → Nat → Option Bool
  Φ : Nat → List D → Sto → R D
  gl : Nat → PyData
  W : Nat
def lcL {α : Type} (f : Item → Sto → R (Option α)) : List Item → Sto → R (List α)
  | [], s => .ok [] s
  | x :: xs, s => (f x s).bind fun r s1 => (lcL f xs s1).bind fun ys s2 => .ok (match r with
    | some y => y :: ys
    | none => ys) s2
def lcF (f : Item → Sto → R (List D)) : List Item → Sto → R (List D)
  | [], s => .ok [] s
  | x :: xs, s => (f x s).bind fun r s1 => (lcF f xs s1).bind fun ys s2 => .ok (r ++ ys) s2
def rOr {α β : Type} (o : Option α) (k : α → R β) : R β := match o with
  | some a => k a
  | none => .bad
def noX {α : Type} (r : R α) : R α := match r with
  | .ok a s => .ok a s
  | _ => .bad
@[simp] theorem noX_ok {α : Type} (a : α) (s : Sto) : noX (.ok a s) = .ok a s := rfl
/-- while a cell stays -/
def keepC {α : Type} (s : Sto) (n : Nat) (ys : List D) (r : R α) : R α := if cel s n = some (.lst ys) then r else .bad
variable (P : Pg)
mutual
def ev : E → Env → Sto → R D
  | .nv, _, _ => .bad
  | .v i, e, s => (match e[i]? with
    | some (some d) => .ok d s
    | _ => .bad)
  | .k d, _, s => .ok (.p d) s
  | .g i, _, s => .ok (.p (P.gl i)) s
  | .tup es, e, s => (evs es e s).bind fun xs s1 => mkT xs s1
  | .lst fl es, e, s => (evs es e s).bind fun xs s1 => mkL fl xs s1
  | .dnew, _, s => .ok (.o s.length) (s ++ [some (.dct [])])
  | .bin op fl a b, e, s => (ev a e s).bind fun x s1 => (ev b e s1).bind fun y s2 => binop op fl x y s2
  | .neg a, e, s => (ev a e s).bind fun x s1 => rOr (dInt x) fun i => .ok (.p (.int (-i))) s1
  | .nt a, e, s => (ev a e s).bind fun x s1 => rOr (dBool x) fun b => .ok (.p (.bool (!b))) s1
  | .cmp op a b, e, s => (ev a e s).bind fun x s1 => (ev b e s1).bind fun y s2 => cmpop op x y s2
  | .chn o1 o2 a b c, e, s => (ev a e s).bind fun x s1 => (ev b e s1).bind fun y s2 => (cmpop o1 x y s2).bind fun z s3 => rOr (dBool z) fun q =>
      if q = true then (ev c e s3).bind fun w s4 => cmpop o2 y w s4 else .ok (.p (.bool false)) s3
  | .an a b, e, s => (ev a e s).bind fun x s1 => rOr (dBool x) fun q => if q = true then ev b e s1 else .ok (.p (.bool false)) s1
  | .orr a b, e, s => (ev a e s).bind fun x s1 => rOr (dBool x) fun q => if q = true then .ok (.p (.bool true)) s1 else ev b e s1
  | .ife c a b, e, s => (ev c e s).bind fun x s1 => rOr (dBool x) fun q => if q = true then ev a e s1 else ev b e s1
  | .ix a i, e, s => (ev a e s).bind fun x s1 => (ev i e s1).bind fun y s2 => ixop x y s2
  | .sl fl a lo hi, e, s => (ev a e s).bind fun x s1 => (evo lo e s1).bind fun l s2 => (evo hi e s2).bind fun h s3 => slop fl x l h s3
  | .rev fl a, e, s => (ev a e s).bind fun x s1 => revop fl x s1
  | .call f es, e, s => (evs es e s).bind fun xs s1 => P.Φ f xs s1
  | .up a, e, s => (ev a e s).bind fun x s1 => upop x s1
  | .callk f es zs, e, s => (evs es e s).bind fun xs s1 => (evs zs e s1).bind fun ys s2 => P.Φ f (xs ++ ys) s2
  | .bi b fl a, e, s => (ev a e s).bind fun x s1 => biop b fl x s1
  | .bi2 b a c, e, s => (ev a e s).bind fun x s1 => (ev c e s1).bind fun y s2 => (match b with
    | .min => mn2op false x y s2
    | .max => mn2op true x y s2
    | _ => .bad)
  | .isi a t, e, s => (ev a e s).bind fun x s1 => isiop s1 x t
  | .isx a t, e, s => (ev a e s).bind fun x s1 => bR (isiX P.sb s1 x t) s1
  | .app a x, e, s => (ev a e s).bind fun l s1 => rOr (asL s1 l) fun _ => (ev x e s1).bind fun y s2 => appop l y s2
  | .ins a i x, e, s => (ev a e s).bind fun l s1 => rOr (asL s1 l) fun _ => (ev i e s1).bind fun j s2 => (ev x e s2).bind fun y s3 => insop l j y s3
  | .lc fl el ow tg it c, e, s => (evi it e s).bind fun xs s1 => if ¬ xs.length ≤ LIM then .bad else (lcL (fun x s2 => noX (rOr (bindT tg x s2 (wipeE e ow)) fun e2 => (evc c e2 s2).bind fun q s3 => if q = true then (ev el e2 s3).bind fun y s4 => .ok (some y) s4 else .ok none s3)) xs s1).bind fun ys s2 => mkL fl ys s2
  | .lc2 fl el ow tg it tg2 it2 ow2 c, e, s => (evi it e s).bind fun xs s1 => if ¬ xs.length ≤ 1000 then .bad else (lcF (fun x s2 => noX (rOr (bindT tg x s2 (wipeE e ow)) fun e2 => (evi it2 e2 s2).bind fun ys s3 => if ¬ ys.length ≤ 1000 then .bad else
      lcL (fun y s4 => noX (rOr (bindT tg2 y s4 (wipeE e2 ow2)) fun e3 => (evc c e3 s4).bind fun q s5 => if q = true then (ev el e3 s5).bind fun y s6 => .ok (some y) s6 else .ok none s5)) ys s3)) xs s1).bind fun ys s2 => mkL fl ys s2
  | .lck fl el ow tg a c, e, s => (ev a e s).bind fun x s1 => (match x with
    | .o n => (match cel s1 n with
      | some (.lst ys) => if ¬ ys.length ≤ LIM then .bad else (lcL (fun x s2 => noX (keepC s2 n ys (rOr (bindT tg x s2 (wipeE e ow)) fun e2 => (evc c e2 s2).bind fun q s3 => if q = true then (ev el e2 s3).bind fun y s4 => .ok (some y) s4 else .ok none s3))) (ys.map .one) s1).bind fun zs s2 => keepC s2 n ys (mkL fl zs s2)
      | _ => .bad)
    | _ => .bad)
  | .frz a, e, s => (ev a e s).bind fun x s1 => rOr (G.frz 8 x s1) fun q => .ok (.p q.1) q.2
  | .fld a f, e, s => (ev a e s).bind fun x s1 => fldop P.sb x f s1
  | .mk k f es, e, s => (evs es e s).bind fun xs s1 => (P.Φ f (.o s1.length :: xs) (s1 ++ [some (.ins k [])])).bind fun v s2 => if isNone v = true then .ok (.o s1.length) s2 else .bad
  | .mc k m f a es, e, s => (ev a e s).bind fun x s1 => (match x with
    | .o n => (match cel s1 n with
      | some (.ins k' fs) => if k' = k ∧ fs.lookup m = none then (evs es e s1).bind fun xs s2 => P.Φ f (.o n :: xs) s2 else .bad
      | _ => .bad)
    | _ => .bad)
  | .ifd k a f, e, s => (ev a e s).bind fun x s1 => ifdop k x f s1
  | .dsp k v, e, s => (ev k e (s ++ [some (.dct [])])).bind fun x s1 => (ev v e s1).bind fun y s2 => (match asD s2 (.o s.length), keyD x with
    | some [], some q => .ok (.o s.length) (s2.set s.length (some (.dct [(q, y)])))
    | _, _ => .bad)
  | .dix d k, e, s => (ev d e s).bind fun x s1 => (ev k e s1).bind fun y s2 => dixop x y s2
  | .dgt d k z, e, s => (ev d e s).bind fun x s1 => rOr (asD s1 x) fun _ => (ev k e s1).bind fun y s2 => (ev z e s2).bind fun w s3 => dgtop x y w s3
  | .din ng k d, e, s => (ev k e s).bind fun y s1 => (ev d e s1).bind fun x s2 => dinop ng y x s2
  | .sit fl d, e, s => (ev d e s).bind fun x s1 => sitop fl x s1
  | .lit fl d, e, s => (ev d e s).bind fun x s1 => litop fl x s1
  | .srs fl a, e, s => (ev a e s).bind fun x s1 => srsop fl x s1
  | .lns a, e, s => (ev a e s).bind fun x s1 => lnsop x s1
  | .dc kx vx ow tg it c, e, s => (evi it e s).bind fun xs s1 => if ¬ xs.length ≤ LIM then .bad else (lcL (fun x s2 => noX (rOr (bindT tg x s2 (wipeE e ow)) fun e2 => (evc c e2 s2).bind fun q s3 => if q = true then (ev kx e2 s3).bind fun y s4 => rOr (keyD y) fun k => (ev vx e2 s4).bind fun z s5 => .ok (some (k, z)) s5 else .ok none s3)) xs s1).bind fun kvs s2 => .ok (.o s2.length) (s2 ++ [some (.dct (mergeKD [] kvs))])
  | .idx a x, e, s => (ev a e s).bind fun l s1 => rOr (asL s1 l) fun _ => (ev x e s1).bind fun y s2 => idxop l y s2
  | .cnt a x, e, s => (ev a e s).bind fun l s1 => rOr (asL s1 l) fun _ => (ev x e s1).bind fun y s2 => cntop l y s2
  | .lrg fl a, e, s => (ev a e s).bind fun x s1 => rOr (dInt x) fun i => if i ≤ 1000000 ∧ -1000000 ≤ i then mkL fl ((List.range i.toNat).map fun (k : Nat) => D.p (.int (k : Int))) s1 else .bad
  | .clr d, e, s => (ev d e s).bind fun x s1 => rOr (asD s1 x) fun _ => clrop x s1
def evs : Es → Env → Sto → R (List D)
  | .nil, _, s => .ok [] s
  | .cons a es, e, s => (ev a e s).bind fun x s1 => (evs es e s1).bind fun xs s2 => .ok (x :: xs) s2
def evo : Eo → Env → Sto → R (Option Int)
  | .no, _, s => .ok none s
  | .so a, e, s => (ev a e s).bind fun x s1 => rOr (dInt x) fun i => .ok (some i) s1
def evc : Eo → Env → Sto → R Bool
  | .no, _, s => .ok true s
  | .so a, e, s => (ev a e s).bind fun x s1 => rOr (dBool x) fun b => .ok b s1
def evi : It → Env → Sto → R (List Item)
  | .seq a, e, s => (ev a e s).bind fun x s1 => (match x with
    | .p (.list ds) => .ok (ds.map fun d => .one (.p d)) s1
    | .p (.tuple ds) => .ok (ds.map fun d => .one (.p d)) s1
    | .p (.str z) => .ok (z.cps.toList.map fun c => .one (.p (.str ⟨#[c]⟩))) s1
    | .o n => (match cel s1 n with
      | some (.lst ys) => .ok (ys.map .one) (s1.set n none)
      | _ => .bad)
    | _ => .bad)
  | .rng a, e, s => (ev a e s).bind fun x s1 => rOr (dInt x) fun i => if i ≤ (LIM : Int) ∧ -(LIM : Int) ≤ i then .ok ((List.range i.toNat).map fun (k : Nat) => Item.one (.p (.int (k : Int)))) s1 else .bad
  | .rng2 a b, e, s => (ev a e s).bind fun x s1 => (ev b e s1).bind fun y s2 => rOr (dInt x) fun i => rOr (dInt y) fun j =>
      if -(LIM : Int) ≤ i ∧ i ≤ (LIM : Int) ∧ -(LIM : Int) ≤ j ∧ j ≤ (LIM : Int) then .ok ((List.range (j - i).toNat).map fun (k : Nat) => Item.one (.p (.int (i + (k : Int))))) s2 else .bad
  | .enu a, e, s => (ev a e s).bind fun x s1 => (match x with
    | .p (.list ds) => .ok (enumI 0 (ds.map .p)) s1
    | _ => .bad)
  | .dk a, e, s => (ev a e s).bind fun x s1 => (match x with
    | .o n => (match cel s1 n with
      | some (.dct kvs) => .ok (kvs.map fun kv => .one (.p (keyP kv.1))) (s1.set n none)
      | _ => .bad)
    | _ => .bad)
  | .dit a, e, s => (ev a e s).bind fun x s1 => (match x with
    | .o n => (match cel s1 n with
      | some (.dct kvs) => .ok (kvs.map fun kv => .tp [.p (keyP kv.1), kv.2]) (s1.set n none)
      | _ => .bad)
    | _ => .bad)
  | .zip a b, e, s => (ev a e s).bind fun x s1 => (ev b e s1).bind fun y s2 => (match x, y with
    | .p (.list ds), .p (.list es) => .ok ((ds.zip es).map fun p => .tp [.p p.1, .p p.2]) s2
    | _, _ => .bad)
end

/-! ### statements -/
inductive RS
  | nx (e : Env) (s : Sto)
  | rt (d : D) (s : Sto)
  | bk (e : Env) (s : Sto)
  | ct (e : Env) (s : Sto)
  | exc (x : Xn) (e : Env) (s : Sto)
  | bad
def toS {α : Type} (r : R α) (e : Env) (f : α → Sto → RS) : RS := match r with
  | .ok a s => f a s
  | .exc x s => .exc x e s
  | .bad => .bad
@[simp] theorem toS_ok {α : Type} (a : α) (s : Sto) (e : Env) (f : α → Sto → RS) : toS (.ok a s) e f = f a s := rfl
def RS.nxt (r : RS) (f : Env → Sto → RS) : RS := match r with
  | .nx e s => f e s
  | r => r
@[simp] theorem RS.nxt_nx (e : Env) (s : Sto) (f : Env → Sto → RS) : (RS.nx e s).nxt f = f e s := rfl
@[simp] theorem RS.nxt_rt (d : D) (s : Sto) (f : Env → Sto → RS) : (RS.rt d s).nxt f = .rt d s := rfl
def forL (f : Item → Env → Sto → RS) : List Item → Env → Sto → RS
  | [], e, s => .nx e s
  | x :: xs, e, s => match f x e s with
    | .nx e1 s1 => forL f xs e1 s1
    | .ct e1 s1 => forL f xs e1 s1
    | .bk e1 s1 => .nx e1 s1
    | r => r
def whlL (c : Env → Sto → R Bool) (b : Env → Sto → RS) : Nat → Env → Sto → RS
  | 0, _, _ => .bad
  | n + 1, e, s => toS (c e s) e fun q s1 => if q = true then (match b e s1 with
    | .nx e1 s2 => whlL c b n e1 s2
    | .ct e1 s2 => whlL c b n e1 s2
    | .bk e1 s2 => .nx e1 s2
    | r => r) else .nx e s1
def bindS (t : Tg) (x : Item) (s : Sto) (e : Env) (f : Env → RS) : RS := match bindT t x s e with
  | some e1 => f e1
  | none => .bad
mutual
def exe : S → Env → Sto → RS
  | .nv, _, _ => .bad
  | .gz i m, e, s => (match e[i]? with
    | some (some d) => (match G.frz 8 d s with
      | some (q, s') => exe m (e.set i (some (.p q))) s'
      | none => .bad)
    | _ => .bad)
  | .asg tg a, e, s => toS (ev P a e s) e fun x s1 => bindS tg (.one x) s1 e fun e1 => .nx e1 s1
  | .par i j a b, e, s => toS (ev P a e s) e fun x s1 => toS (ev P b e s1) e fun y s2 => if (i < e.length ∧ j < e.length) ∧ i ≠ j then .nx ((e.set i (some x)).set j (some y)) s2 else .bad
  | .seti a i x, e, s => toS (ev P x e s) e fun y s1 => toS (ev P a e s1) e fun l s2 => toS (ev P i e s2) e fun j s3 => toS (setop l j y s3) e fun _ s4 => .nx e s4
  | .setf k a f x, e, s => toS (ev P x e s) e fun y s1 => toS (ev P a e s1) e fun l s2 => toS (setfop k l f y s2) e fun _ s3 => .nx e s3
  | .dput d k x, e, s => toS (ev P x e s) e fun y s1 => toS (ev P d e s1) e fun l s2 => toS (ev P k e s2) e fun j s3 => toS (dputop l j y s3) e fun _ s4 => .nx e s4
  | .daug d k op x, e, s => toS (ev P d e s) e fun l s1 => toS (ev P k e s1) e fun j s2 => toS (dixop l j s2) e fun v s3 => toS (ev P x e s3) e fun y s4 => (match op, dInt v, dInt y with
      | .add, some a, some b => toS (dputop l j (.p (.int (a + b))) s4) e fun _ s5 => .nx e s5
      | .sub, some a, some b => toS (dputop l j (.p (.int (a - b))) s4) e fun _ s5 => .nx e s5
      | _, _, _ => .bad)
  | .aug i op x, e, s => (match e[i]? with
    | some (some d) => toS (ev P x e s) e fun y s1 => (match op, dInt d, dInt y with
      | .add, some j, some k => .nx (e.set i (some (.p (.int (j + k))))) s1
      | .sub, some j, some k => .nx (e.set i (some (.p (.int (j - k))))) s1
      | _, _, _ => .bad)
    | _ => .bad)
  | .ex a, e, s => toS (ev P a e s) e fun _ s1 => .nx e s1
  | .ret a, e, s => toS (ev P a e s) e fun x s1 => .rt x s1
  | .retN, _, s => .rt (.p .none) s
  | .ifs c a b, e, s => toS (evc P (.so c) e s) e fun q s1 => if q = true then exs a e s1 else exs b e s1
  | .for_ tg it b, e, s => toS (evi P it e s) e fun xs s1 => forL (fun x e1 s2 => bindS tg x s2 e1 fun e2 => exs b e2 s2) xs e s1
  | .whl c b, e, s => whlL (fun e1 s1 => evc P (.so c) e1 s1) (fun e1 s1 => exs b e1 s1) P.W e s
  | .pass, e, s => .nx e s
  | .brk, e, s => .bk e s
  | .cnt, e, s => .ct e s
  | .raiseM k, e, s => .exc ⟨k, none⟩ e s
  | .raise0 k, e, s => .exc ⟨k, none⟩ e s
  | .raiseT k a, e, s => toS (ev P a e s) e fun _ s1 => .exc ⟨k, none⟩ e s1
  | .raiseV k _ a, e, s => toS (ev P a e s) e fun y s1 => .exc ⟨k, some y⟩ e s1
  | .raiseK k _ a, e, s => toS (ev P a e s) e fun y s1 => .exc ⟨k, some y⟩ e s1
  | .tryC b k x i, e, s => (match exs b e s with
    | .exc y e1 s1 => (match P.sb y.c k with
      | some true => if x < e1.length then .nx (((e1.set x (some (.o s1.length))).set i (some (.o s1.length))).set x none) (s1 ++ [some (.exn y.c y.pl)]) else .bad
      | some false => .exc y e1 s1
      | none => .bad)
    | r => r)
def exs : Ss → Env → Sto → RS
  | .nil, e, s => .nx e s
  | .cons a r, e, s => (exe a e s).nxt fun e1 s1 => exs r e1 s1
end
end
end G

namespace G
open PySem PySem.Spec PyProof.Rows L2
open Classical
noncomputable section
section
variable {K : PySem.W.Frag} {cA : Nat → Addr} {α β : Type}
/-! ### what is to hold behind a run -/
def Post (K : PySem.W.Frag) (cA : Nat → Addr) (c : Cf) (H : Hp) (r : R α) (A : α → Sto → Cf → Hp → Prop) (W : Xn → Sto → Cf → Hp → Prop) : Prop := match r with
  | .ok a s => ∀ c' H', Ext c H c' H' → Rep K cA c' H' s → A a s c' H'
  | .exc x s => ∀ c' H', Ext c H c' H' → Rep K cA c' H' s → W x s c' H'
  | .bad => False
variable {c c' : Cf} {H H' : Hp} {s : Sto} {A : β → Sto → Cf → Hp → Prop} {W : Xn → Sto → Cf → Hp → Prop}
theorem Post.mono {r : R β} (e : Ext c H c' H') (h : Post K cA c H r A W) : Post K cA c' H' r A W := by
  cases r with
  | ok a s => exact fun c2 H2 e2 q => h c2 H2 (e.trans e2) q
  | exc a s => exact fun c2 H2 e2 q => h c2 H2 (e.trans e2) q
  | bad => exact h
theorem Post.bind {r : R α} {f : α → Sto → R β} (h : Post K cA c H (r.bind f) A W) : Post K cA c H r (fun a s' c' H' => Post K cA c' H' (f a s') A W) W := by
  cases r with
  | ok a s => exact fun c2 H2 e2 _ => Post.mono (r := f a s) e2 h
  | exc a s => exact h
  | bad => exact h
theorem Post.imp {r : R β} {A' : β → Sto → Cf → Hp → Prop} {W' : Xn → Sto → Cf → Hp → Prop} (h : Post K cA c H r A W) (ha : ∀ a s c' H', Ext c H c' H' → Rep K cA c' H' s → A a s c' H' → A' a s c' H') (hw : ∀ x s c' H', Ext c H c' H' → Rep K cA c' H' s → W x s c' H' → W' x s c' H') : Post K cA c H r A' W' := by
  cases r with
  | ok a s => exact fun c2 H2 e2 q => ha a s c2 H2 e2 q (h c2 H2 e2 q)
  | exc a s => exact fun c2 H2 e2 q => hw a s c2 H2 e2 q (h c2 H2 e2 q)
  | bad => exact h
theorem Post.ok {a : β} (h : Post K cA c H (.ok a s) A W) (r : Rep K cA c H s) : A a s c H := h c H (Ext.refl _ _) r
theorem Post.rOr {o : Option α} {k : α → R β} (h : Post K cA c H (G.rOr o k) A W) : ∃ a, o = some a ∧ Post K cA c H (k a) A W := by
  cases o with
  | none => exact h.elim
  | some a => exact ⟨a, rfl, h⟩
theorem Post.if_ {p : Prop} [Decidable p] {r : R β} (h : Post K cA c H (if p then r else .bad) A W) : p ∧ Post K cA c H r A W := by
  by_cases q : p
  · rw [if_pos q] at h
    exact ⟨q, h⟩
  · rw [if_neg q] at h
    exact h.elim
theorem Post.bR {b : Option Bool} {A : D → Sto → Cf → Hp → Prop} (h : Post K cA c H (G.bR b s) A W) : ∃ k, b = some k ∧ Post K cA c H (.ok (.p (.bool k)) s) A W := by
  cases b with
  | none => exact h.elim
  | some k => exact ⟨k, rfl, h⟩

/-! ### slots -/
def RelE (K : PySem.W.Frag) (c : Cf) (e : Env) (σ : L2.St) : Prop := e.length = σ.length ∧ ∀ (i : Nat) (d : D), e[i]? = some (some d) → ∃ v, σ[i]? = some (some v) ∧ RepV K c d v
theorem RelE.mono {e : Env} {σ : L2.St} (x : Ext c H c' H') (h : RelE K c e σ) : RelE K c' e σ := ⟨h.1, fun i d q => by
  obtain ⟨v, h1, h2⟩ := h.2 i d q
  exact ⟨v, h1, h2.mono x⟩⟩
theorem RelE.set {e : Env} {σ : L2.St} {i : Nat} {d : D} {v : V} (h : RelE K c e σ) (r : RepV K c d v) : RelE K c (e.set i (some d)) (σ.set i (some v)) := by
  refine ⟨by rw [List.length_set, List.length_set, h.1], fun j d' q => ?_⟩
  by_cases z : j = i
  · subst z
    by_cases l : j < e.length
    · rw [List.getElem?_set_self l] at q
      cases q
      exact ⟨v, List.getElem?_set_self (by rw [← h.1]; exact l), r⟩
    · rw [List.getElem?_eq_none (by rw [List.length_set]; omega)] at q
      cases q
  · rw [List.getElem?_set_ne (Ne.symm z)] at q
    obtain ⟨w, h1, h2⟩ := h.2 j d' q
    exact ⟨w, by rw [List.getElem?_set_ne (Ne.symm z)]; exact h1, h2⟩
theorem RelE.unset {e : Env} {σ : L2.St} {i : Nat} (h : RelE K c e σ) : RelE K c (e.set i none) (σ.set i none) := by
  refine ⟨by rw [List.length_set, List.length_set, h.1], fun j d' q => ?_⟩
  by_cases z : j = i
  · subst z
    by_cases l : j < e.length
    · rw [List.getElem?_set_self l] at q
      cases q
    · rw [List.getElem?_eq_none (by rw [List.length_set]; omega)] at q
      cases q
  · rw [List.getElem?_set_ne (Ne.symm z)] at q
    obtain ⟨w, h1, h2⟩ := h.2 j d' q
    exact ⟨w, by rw [List.getElem?_set_ne (Ne.symm z)]; exact h1, h2⟩
theorem RelE.wipe {e : Env} {σ : L2.St} (h : RelE K c e σ) : ∀ vs : List Nat, RelE K c (wipeE e vs) (L2.wipe σ vs)
  | [] => h
  | v :: vs => (RelE.wipe h vs).unset

/-! ### exceptions -/
def XnR (K : PySem.W.Frag) (cA : Nat → Addr) (c : Cf) (x : Xn) (cls : Value) (dd : Option Addr) : Prop := cls = .ref (cA x.c) ∧ (match x.pl with
  | none => dd = none
  | some d => ∃ b v, dd = some b ∧ c.F b = some (.xd [(("wrong" : Str), v)]) ∧ RepV K c d v)
def WW (K : PySem.W.Frag) (cA : Nat → Addr) (W : WX) (σ : L2.St) : Xn → Sto → Cf → Hp → Prop := fun x _ c' H' => ∀ cls dd, XnR K cA c' x cls dd → W cls dd σ H'
def okQ (K : PySem.W.Frag) (Q : VK) : D → Sto → Cf → Hp → Prop := fun d _ c' H' => ∀ v, RepV K c' d v → Q v H'

/-! ### making lists and tuples -/
theorem mkL_new {fl : Bool} {xs : List D} {vs : List V} {Q : VK} (r : Rep K cA c H s) (hv : RepVs K c xs vs) (h : Post K cA c H (mkL fl xs s) (okQ K Q) W) : vs.length ≤ LIM ∧ ∀ p, H p = none → Q (.ref p) (upd H p (.lst vs)) := by
  unfold mkL at h
  obtain ⟨hl, h⟩ := h.if_
  refine ⟨by rw [← Paired.length hv]; exact hl, fun p hp => ?_⟩
  obtain ⟨f1, f2⟩ := r.fresh hp
  have eg : Ext c H c (upd H p (.lst vs)) := Ext.grow hp
  have rg : Rep K cA c (upd H p (.lst vs)) s := r.grow hp
  have cellC : Post K cA c H (.ok (.o s.length) (s ++ [some (.lst xs)])) (okQ K Q) W → Q (.ref p) (upd H p (.lst vs)) := fun h => by
    refine h ⟨c.F, c.ι ++ [p]⟩ _ (eg.adC hp) (rg.adC upd_same f1 f2 ⟨vs, rfl, hv.mono (eg.adC hp)⟩) (.ref p) ⟨p, ?_, rfl⟩
    show (c.ι ++ [p])[s.length]? = some p
    rw [List.getElem?_append_right (by rw [r.len]; exact Nat.le_refl _), r.len, Nat.sub_self]
    rfl
  cases fl with
  | true => exact cellC h
  | false =>
    cases e : allP xs with
    | none =>
      rw [e] at h
      exact cellC h
    | some ds =>
      rw [e] at h
      have ex := allP_some e
      subst ex
      refine h ⟨upd c.F p (.lst vs), c.ι⟩ _ (eg.adF f1 hp) (rg.adF upd_same f1 f2) (.ref p) ?_
      exact .lst upd_same (dqAll_of (c := ⟨upd c.F p (.lst vs), c.ι⟩) (hv.mono (eg.adF f1 hp)))
theorem mkT_new {xs : List D} {vs : List V} {Q : VK} (r : Rep K cA c H s) (hv : RepVs K c xs vs) (h : Post K cA c H (mkT xs s) (okQ K Q) W) : vs.length ≤ LIM ∧ ∀ p, H p = none → Q (.ref p) (upd H p (.tup vs)) := by
  unfold mkT at h
  obtain ⟨hl, h⟩ := h.if_
  refine ⟨by rw [← Paired.length hv]; exact hl, fun p hp => ?_⟩
  obtain ⟨f1, f2⟩ := r.fresh hp
  have eg : Ext c H c (upd H p (.tup vs)) := Ext.grow hp
  have rg : Rep K cA c (upd H p (.tup vs)) s := r.grow hp
  cases e : allP xs with
  | none =>
    rw [e] at h
    refine h ⟨c.F, c.ι ++ [p]⟩ _ (eg.adC hp) (rg.adC upd_same f1 f2 ⟨vs, rfl, hv.mono (eg.adC hp)⟩) (.ref p) ⟨p, ?_, rfl⟩
    show (c.ι ++ [p])[s.length]? = some p
    rw [List.getElem?_append_right (by rw [r.len]; exact Nat.le_refl _), r.len, Nat.sub_self]
    rfl
  | some ds =>
    rw [e] at h
    have ex := allP_some e
    subst ex
    refine h ⟨upd c.F p (.tup vs), c.ι⟩ _ (eg.adF f1 hp) (rg.adF upd_same f1 f2) (.ref p) ?_
    exact .tup (SqT.of upd_same) (dqAll_of (c := ⟨upd c.F p (.tup vs), c.ι⟩) (hv.mono (eg.adF f1 hp)))

/-! ### taking cells out -/
def dead (s : Sto) (m : Nat) : Prop := ∀ y : Cell, s[m]? ≠ some (some y)
theorem dead_set {s : Sto} {m n : Nat} (h : dead s m) : dead (s.set n none) m := fun y q => by
  by_cases z : m = n
  · subst z
    by_cases l : m < s.length
    · rw [List.getElem?_set_self l] at q
      cases q
    · rw [List.getElem?_eq_none (by rw [List.length_set]; omega)] at q
      cases q
  · rw [List.getElem?_set_ne (Ne.symm z)] at q
    exact h y q
theorem dead_self {s : Sto} {n : Nat} : dead (s.set n none) n := fun y q => by
  by_cases l : n < s.length
  · rw [List.getElem?_set_self l] at q
    cases q
  · rw [List.getElem?_eq_none (by rw [List.length_set]; omega)] at q
    cases q
structure Fz (K : PySem.W.Frag) (cA : Nat → Addr) (c : Cf) (H : Hp) (s : Sto) (c' : Cf) (s' : Sto) : Prop where
  r : Rep K cA c' H s'
  e : Ext c H c' H
  i : c'.ι = c.ι
  d : ∀ m, dead s m → dead s' m
  f : ∀ (m : Nat) (a : Addr), c.ι[m]? = some a → dead s m → c'.F a = c.F a
theorem Fz.refl (r : Rep K cA c H s) : Fz K cA c H s c s := ⟨r, Ext.refl _ _, rfl, fun _ z => z, fun _ _ _ _ => rfl⟩
theorem Fz.trans {c1 c2 : Cf} {s1 s2 : Sto} (a : Fz K cA c H s c1 s1) (b : Fz K cA c1 H s1 c2 s2) : Fz K cA c H s c2 s2 :=
  ⟨b.r, a.e.trans b.e, b.i.trans a.i, fun m z => b.d m (a.d m z), fun m x h z => (b.f m x (by rw [a.i]; exact h) (a.d m z)).trans (a.f m x h z)⟩
theorem Fz.one {c1 : Cf} {s1 : Sto} {n : Nat} {a : Addr} {u : HO} (x : Fz K cA c H (s.set n none) c1 s1) (r : Rep K cA c H s) (hl : ¬ dead s n) (ha : c.ι[n]? = some a) (h : H a = some u) (hf : c.F a = none) :
    ∃ c2, Fz K cA c H s c2 s1 ∧ c2.F = upd c1.F a u ∧ Same c1.F c2.F := by
  have e1 : c1.F a = none := (x.f n a ha dead_self).trans hf
  obtain ⟨l1, l2⟩ := x.r.fzc (by rw [x.i]; exact ha) h e1 (x.d n dead_self)
  refine ⟨_, ⟨l1, x.e.trans l2, x.i, fun m z => x.d m (dead_set z), fun m b hb z => ?_⟩, rfl, l2.f⟩
  have ne : b ≠ a := fun q => by
    subst q
    obtain ⟨i1, e1⟩ := List.getElem?_eq_some_iff.mp hb
    obtain ⟨i2, e2⟩ := List.getElem?_eq_some_iff.mp ha
    have mn : m = n := (List.getElem_inj r.nd).mp (e1.trans e2.symm)
    exact hl (mn ▸ z)
  show upd c1.F a u b = c.F b
  rw [upd_ne ne]
  exact x.f m b hb (dead_set z)
theorem frz_ok : ∀ (k : Nat) {d : D} {s s' : Sto} {q : PyData} {c : Cf} {v : V}, frz k d s = some (q, s') → Rep K cA c H s → RepV K c d v → ∃ c', Fz K cA c H s c' s' ∧ Dq K c'.F v q
  | k, .p d, s, s', q, c, v, h, r, hv => by
    have e : frz k (.p d) s = some (d, s) := by cases k <;> rfl
    rw [e] at h
    cases h
    exact ⟨c, Fz.refl r, hv⟩
  | k, .s l, s, s', q, c, v, h, r, hv => by cases k <;> cases h
  | 0, .o n, s, s', q, c, v, h, r, hv => by cases h
  | k + 1, .o n, s, s', q, c, v, h, r, hv => by
    have all : ∀ (xs : List D) (ds : List PyData) (vs : List V) (s s' : Sto) (c : Cf), frzL (frz k) xs s = some (ds, s') → Rep K cA c H s → RepVs K c xs vs → ∃ c', Fz K cA c H s c' s' ∧ DqAll K c'.F vs ds := by
      intro xs
      induction xs with
      | nil =>
        intro ds vs s s' c h r hv
        cases h
        cases hv
        exact ⟨c, Fz.refl r, .nil⟩
      | cons x xs ih =>
        intro ds vs s s' c h r hv
        cases hv with
        | cons hx ht =>
          simp only [frzL] at h
          cases e1 : frz k x s with
          | none => rw [e1] at h; cases h
          | some r1 =>
            obtain ⟨d1, s1⟩ := r1
            rw [e1] at h
            dsimp only at h
            cases e2 : frzL (frz k) xs s1 with
            | none => rw [e2] at h; cases h
            | some r2 =>
              obtain ⟨ds2, s2⟩ := r2
              rw [e2] at h
              cases h
              obtain ⟨c1, g1, g3⟩ := frz_ok k e1 r hx
              obtain ⟨c2, l1, l3⟩ := ih ds2 _ s1 _ c1 e2 g1.r (RepVs.mono g1.e ht)
              exact ⟨c2, g1.trans l1, .cons (dq_mono l1.e.f g3) l3⟩
    unfold frz at h
    split at h
    · rename_i xs e
      obtain ⟨a, u, rfl, e2, e3, e4, e5, vs, rfl, e7⟩ := r.at e hv
      cases z : frzL (frz k) xs (s.set n none) with
      | none => rw [z] at h; cases h
      | some r1 =>
        obtain ⟨ds, s1⟩ := r1
        rw [z] at h
        cases h
        obtain ⟨c1, g1, g3⟩ := all xs ds vs _ _ c z r.drop e7
        obtain ⟨c2, l1, l2, l3⟩ := g1.one r (fun z => z _ e3) e2 e4 e5
        refine ⟨c2, l1, .lst ?_ (dqAll_mono l3 g3)⟩
        rw [l2]
        exact upd_same
    · rename_i xs e
      obtain ⟨a, u, rfl, e2, e3, e4, e5, vs, rfl, e7⟩ := r.at e hv
      cases z : frzL (frz k) xs (s.set n none) with
      | none => rw [z] at h; cases h
      | some r1 =>
        obtain ⟨ds, s1⟩ := r1
        rw [z] at h
        cases h
        obtain ⟨c1, g1, g3⟩ := all xs ds vs _ _ c z r.drop e7
        obtain ⟨c2, l1, l2, l3⟩ := g1.one r (fun z => z _ e3) e2 e4 e5
        refine ⟨c2, l1, .tup (SqT.of ?_) (dqAll_mono l3 g3)⟩
        rw [l2]
        exact upd_same
    · cases h
/-! ### forgetting what a call has laid -/
def cloD (m : Nat) : D → Prop
  | .o n => n < m
  | _ => True
def cloC (m : Nat) : Cell → Prop
  | .lst xs => ∀ x ∈ xs, cloD m x
  | .tup xs => ∀ x ∈ xs, cloD m x
  | .dct kvs => ∀ x ∈ kvs, cloD m x.2
  | .ins _ fs => ∀ x ∈ fs, cloD m x.2
  | .exn _ pl => ∀ d, pl = some d → cloD m d
def cut (s s' : Sto) : Option Sto := if ∀ n, n < s.length → s'[n]? = s[n]? ∨ ∀ x : Cell, s'[n]? = some (some x) → cloC s.length x then some (s'.take s.length) else none
theorem repV_clo {c : Cf} {v : V} : ∀ {d : D}, RepV K c d v → cloD c.ι.length d
  | .p _, _ => trivial
  | .s _, _ => trivial
  | .o _, ⟨_, h, _⟩ => (List.getElem?_eq_some_iff.mp h).1
theorem paired_mem {γ δ : Type} {F : γ → δ → Prop} : ∀ {xs : List γ} {ys : List δ}, Paired F xs ys → ∀ x ∈ xs, ∃ y, F x y
  | _, _, .nil, x, m => by cases m
  | _, _, .cons h t, x, m => by
    rcases List.mem_cons.mp m with e | m
    · subst e; exact ⟨_, h⟩
    · exact paired_mem t x m
theorem repC_clo {c : Cf} {a : Addr} {u : HO} {x : Cell} (h : RepC K cA c a x u) : cloC c.ι.length x := by
  cases x with
  | lst xs => obtain ⟨vs, _, r⟩ := h; exact fun x m => let ⟨_, q⟩ := paired_mem r x m; repV_clo q
  | tup xs => obtain ⟨vs, _, r⟩ := h; exact fun x m => let ⟨_, q⟩ := paired_mem r x m; repV_clo q
  | dct xs => obtain ⟨vs, _, r⟩ := h; exact fun x m => let ⟨_, q⟩ := paired_mem r x m; repV_clo q.2
  | ins k fs => obtain ⟨_, vs, _, r⟩ := h; exact fun x m => let ⟨_, q⟩ := paired_mem r x m; repV_clo q.2
  | exn k pl =>
    obtain ⟨dd, _, r⟩ := h
    intro d e
    subst e
    obtain ⟨b, v, _, _, q⟩ := r
    exact repV_clo q
theorem repV_cut {c : Cf} {ι : List Addr} {v : V} (hp : ι <+: c.ι) : ∀ {d : D}, RepV K c d v → cloD ι.length d → RepV K ⟨c.F, ι⟩ d v
  | .p _, h, _ => h
  | .s _, h, _ => h
  | .o n, ⟨a, h, q⟩, l => ⟨a, by
    obtain ⟨t, e⟩ := hp
    rw [← e, List.getElem?_append_left l] at h
    exact h, q⟩
theorem repVs_cut {c : Cf} {ι : List Addr} (hp : ι <+: c.ι) : ∀ {xs : List D} {vs : List V}, RepVs K c xs vs → (∀ x ∈ xs, cloD ι.length x) → RepVs K ⟨c.F, ι⟩ xs vs
  | _, _, .nil, _ => .nil
  | _, _, .cons h t, l => .cons (repV_cut hp h (l _ List.mem_cons_self)) (repVs_cut hp t fun x m => l x (List.mem_cons_of_mem _ m))
theorem repK_cut {κ : Type} {c : Cf} {ι : List Addr} (hp : ι <+: c.ι) : ∀ {xs : List (κ × D)} {vs : List (κ × V)}, RepK K c xs vs → (∀ x ∈ xs, cloD ι.length x.2) → RepK K ⟨c.F, ι⟩ xs vs
  | _, _, .nil, _ => .nil
  | _, _, .cons h t, l => .cons ⟨h.1, repV_cut hp h.2 (l _ List.mem_cons_self)⟩ (repK_cut hp t fun x m => l x (List.mem_cons_of_mem _ m))
theorem repC_cut {c : Cf} {ι : List Addr} {a : Addr} {u : HO} {x : Cell} (hp : ι <+: c.ι) (h : RepC K cA c a x u) (l : cloC ι.length x) : RepC K cA ⟨c.F, ι⟩ a x u := by
  cases x with
  | lst xs => obtain ⟨vs, q, r⟩ := h; exact ⟨vs, q, repVs_cut hp r l⟩
  | tup xs => obtain ⟨vs, q, r⟩ := h; exact ⟨vs, q, repVs_cut hp r l⟩
  | dct xs => obtain ⟨vs, q, r⟩ := h; exact ⟨vs, q, repK_cut hp r l⟩
  | ins k fs => obtain ⟨dx, vs, q, r⟩ := h; exact ⟨dx, vs, q, repK_cut hp r l⟩
  | exn k pl =>
    obtain ⟨dd, q, r⟩ := h
    refine ⟨dd, q, ?_⟩
    cases pl with
    | none => trivial
    | some d =>
      obtain ⟨b, v, r1, r2, r3⟩ := r
      exact ⟨b, v, r1, r2, repV_cut hp r3 (l d rfl)⟩
theorem Rep.cut {c c' : Cf} {H H' : Hp} {s s' s2 : Sto} (r0 : Rep K cA c H s) (e : Ext c H c' H') (r : Rep K cA c' H' s') (h : G.cut s s' = some s2) : Rep K cA ⟨c'.F, c.ι⟩ H' s2 ∧ Ext c H ⟨c'.F, c.ι⟩ H' := by
  unfold G.cut at h
  split at h
  · rename_i hc
    cases h
    have l1 : s.length ≤ s'.length := by
      obtain ⟨t, q⟩ := e.i
      rw [← r0.len, ← r.len, ← q, List.length_append]
      omega
    refine ⟨⟨r.sub, ?_, r0.nd, fun a m => ?_, fun n x a h1 h2 => ?_⟩, ⟨e.f, List.prefix_refl _, fun a o h1 h2 h3 => ?_⟩⟩
    · show c.ι.length = _
      rw [List.length_take, r0.len]
      omega
    · obtain ⟨t, q⟩ := e.i
      exact r.dom a (by rw [← q]; exact List.mem_append_left _ m)
    · have hn : n < s.length := by
        have := (List.getElem?_eq_some_iff.mp h2).1
        rw [← r0.len]
        exact this
      rw [List.getElem?_take_of_lt hn] at h1
      obtain ⟨f, u, g1, g2⟩ := r.cell n x a h1 (e.ix h2)
      refine ⟨f, u, g1, repC_cut e.i g2 ?_⟩
      rcases hc n hn with q | q
      · rw [q] at h1
        obtain ⟨_, u0, _, g3⟩ := r0.cell n x a h1 h2
        exact repC_clo g3
      · rw [r0.len]
        exact q x h1
    · obtain ⟨g1, g2, g3⟩ := e.k a o h1 h2 h3
      exact ⟨g1, g2, h3⟩
  · cases h
/-! ### what is handed out keeps its own cells, no others -/
def ownL (f : D → Sto → Sto → Option (D × Sto × Sto)) : List D → Sto → Sto → Option (List D × Sto × Sto)
  | [], s, a => some ([], s, a)
  | x :: xs, s, a => match f x s a with
    | some (y, s1, a1) => (match ownL f xs s1 a1 with
      | some (ys, s2, a2) => some (y :: ys, s2, a2)
      | none => none)
    | none => none
def plX : Option D → Bool
  | none => true
  | some (.p _) => true
  | _ => false
def own (m : Nat) : Nat → D → Sto → Sto → Option (D × Sto × Sto)
  | _, .p d, s, a => some (.p d, s, a)
  | _, .s _, _, _ => none
  | 0, .o _, _, _ => none
  | k + 1, .o n, s, a => if n < m then some (.o n, s, a) else match cel s n with
    | some (.lst xs) => (match ownL (own m k) xs (s.set n none) a with
      | some (ys, s1, a1) => some (.o a1.length, s1, a1 ++ [some (.lst ys)])
      | none => none)
    | some (.tup xs) => (match ownL (own m k) xs (s.set n none) a with
      | some (ys, s1, a1) => some (.o a1.length, s1, a1 ++ [some (.tup ys)])
      | none => none)
    | some (.dct kvs) => (match ownL (own m k) (kvs.map (·.2)) (s.set n none) a with
      | some (ys, s1, a1) => some (.o a1.length, s1, a1 ++ [some (.dct ((kvs.map (·.1)).zip ys))])
      | none => none)
    | some (.exn j pl) => if plX pl = true then some (.o a.length, s.set n none, a ++ [some (.exn j pl)]) else none
    | _ => none
structure OwnI (K : PySem.W.Frag) (cA : Nat → Addr) (c : Cf) (H : Hp) (m : Nat) (s : Sto) (ca : Cf) (a : Sto) : Prop where
  rs : Rep K cA c H s
  ra : Rep K cA ca H a
  f : ca.F = c.F
  lo : ∀ n, n < m → ca.ι[n]? = c.ι[n]?
  hi : ∀ q ∈ ca.ι, ∃ j, c.ι[j]? = some q ∧ (j < m ∨ dead s j)
theorem repK_of {κ : Type} {c : Cf} : ∀ {ks : List κ} {ws : List (κ × V)} {ds : List D}, ks = ws.map (·.1) → RepVs K c ds (ws.map (·.2)) → RepK K c (ks.zip ds) ws
  | _, [], ds, h, hv => by
    subst h
    cases hv
    exact .nil
  | _, w :: ws, ds, h, hv => by
    subst h
    cases hv with
    | cons h1 h2 => exact .cons ⟨rfl, h1⟩ (repK_of rfl h2)
theorem repVs_snd {κ : Type} {c : Cf} : ∀ {kvs : List (κ × D)} {ws : List (κ × V)}, RepK K c kvs ws → RepVs K c (kvs.map (·.2)) (ws.map (·.2)) ∧ kvs.map (·.1) = ws.map (·.1)
  | _, _, .nil => ⟨.nil, rfl⟩
  | _, _, .cons h t => by
    obtain ⟨i1, i2⟩ := repVs_snd t
    exact ⟨.cons h.2 i1, by rw [List.map_cons, List.map_cons, h.1, i2]⟩
theorem own_ok {c : Cf} {H : Hp} {m : Nat} : ∀ (k : Nat) {d d' : D} {s s1 a a1 : Sto} {ca : Cf} {v : V}, own m k d s a = some (d', s1, a1) → OwnI K cA c H m s ca a → RepV K c d v → ∃ ca1, OwnI K cA c H m s1 ca1 a1 ∧ ca.ι <+: ca1.ι ∧ (∀ j, dead s j → dead s1 j) ∧ (∀ j q, c.ι[j]? = some q → q ∈ ca1.ι → q ∈ ca.ι ∨ ¬ dead s j) ∧ RepV K ca1 d' v
  | k, .p d, d', s, s1, a, a1, ca, v, h, I, hv => by
    have e : own m k (.p d) s a = some (.p d, s, a) := by cases k <;> rfl
    rw [e] at h
    cases h
    refine ⟨ca, I, List.prefix_refl _, fun _ z => z, fun _ _ _ z => .inl z, ?_⟩
    show Dq K ca.F v d
    rw [I.f]
    exact hv
  | k, .s l, d', s, s1, a, a1, ca, v, h, I, hv => by cases k <;> cases h
  | 0, .o n, d', s, s1, a, a1, ca, v, h, I, hv => by cases h
  | k + 1, .o n, d', s, s1, a, a1, ca, v, h, I, hv => by
    have all : ∀ (xs ys : List D) (vs : List V) (s s1 a a1 : Sto) (ca : Cf), ownL (own m k) xs s a = some (ys, s1, a1) → OwnI K cA c H m s ca a → RepVs K c xs vs → ∃ ca1, OwnI K cA c H m s1 ca1 a1 ∧ ca.ι <+: ca1.ι ∧ (∀ j, dead s j → dead s1 j) ∧ (∀ j q, c.ι[j]? = some q → q ∈ ca1.ι → q ∈ ca.ι ∨ ¬ dead s j) ∧ RepVs K ca1 ys vs := by
      intro xs
      induction xs with
      | nil =>
        intro ys vs s s1 a a1 ca h I hv
        cases h
        cases hv
        exact ⟨ca, I, List.prefix_refl _, fun _ z => z, fun _ _ _ z => .inl z, .nil⟩
      | cons x xs ih =>
        intro ys vs s s1 a a1 ca h I hv
        cases hv with
        | cons hx ht =>
          simp only [ownL] at h
          cases e1 : own m k x s a with
          | none => rw [e1] at h; cases h
          | some r1 =>
            obtain ⟨y, s2, a2⟩ := r1
            rw [e1] at h
            dsimp only at h
            cases e2 : ownL (own m k) xs s2 a2 with
            | none => rw [e2] at h; cases h
            | some r2 =>
              obtain ⟨ys2, s3, a3⟩ := r2
              rw [e2] at h
              cases h
              obtain ⟨c1, g1, g2, g3, g4, g5⟩ := own_ok k e1 I hx
              obtain ⟨c2, l1, l2, l3, l4, l5⟩ := ih _ _ _ _ _ _ c1 e2 g1 ht
              have x12 : Ext c1 (fun _ => none) c2 H := ⟨by rw [g1.f, l1.f]; exact Same.refl _, l2, fun _ _ z => by cases z⟩
              refine ⟨c2, l1, g2.trans l2, fun j z => l3 j (g3 j z), fun j q hj hq => ?_, .cons (g5.mono x12) l5⟩
              rcases l4 j q hj hq with z | z
              · exact g4 j q hj z
              · exact .inr fun z2 => z (g3 j z2)
    -- one more cell
    have fin : ∀ (p : Addr) (x : Cell) (y : Cell) (u : HO) (s1 a1 : Sto) (c1 : Cf), cel s n = some x → c.ι[n]? = some p → H p = some u → c.F p = none → ¬ n < m → OwnI K cA c H m s1 c1 a1 → ca.ι <+: c1.ι → (∀ j, dead (s.set n none) j → dead s1 j) →
        (∀ j q, c.ι[j]? = some q → q ∈ c1.ι → q ∈ ca.ι ∨ ¬ dead (s.set n none) j) → (∀ c2 : Cf, c2.F = c1.F → c1.ι <+: c2.ι → RepC K cA c2 p y u) →
        ∃ ca1, OwnI K cA c H m s1 ca1 (a1 ++ [some y]) ∧ ca.ι <+: ca1.ι ∧ (∀ j, dead s j → dead s1 j) ∧ (∀ j q, c.ι[j]? = some q → q ∈ ca1.ι → q ∈ ca.ι ∨ ¬ dead s j) ∧ RepV K ca1 (.o a1.length) (.ref p) := by
      intro p x y u s1 a1 c1 ex hp hu hf hm J px dd hh hy
      have live : ¬ dead s n := fun z => z x (cel_some ex)
      have np : p ∉ ca.ι := fun hq => by
        obtain ⟨j, j1, j2⟩ := I.hi p hq
        have ejn : j = n := by
          obtain ⟨l1, e1⟩ := List.getElem?_eq_some_iff.mp j1
          obtain ⟨l2, e2⟩ := List.getElem?_eq_some_iff.mp hp
          exact (List.getElem_inj I.rs.nd).mp (e1.trans e2.symm)
        subst ejn
        rcases j2 with z | z
        · exact hm z
        · exact live z
      have np1 : p ∉ c1.ι := fun hq => by
        rcases hh n p hp hq with z | z
        · exact np z
        · exact z dead_self
      have fp : c1.F p = none := by rw [J.f]; exact hf
      refine ⟨⟨c1.F, c1.ι ++ [p]⟩, ⟨J.rs, J.ra.adC hu fp np1 (hy _ rfl (List.prefix_append _ _)), J.f, fun j hj => ?_, fun q hq => ?_⟩, px.trans (List.prefix_append _ _), fun j z => dd j (dead_set z), fun j q hj hq => ?_, p, ?_, rfl⟩
      · show (c1.ι ++ [p])[j]? = _
        have e := J.lo j hj
        cases ec : c.ι[j]? with
        | none =>
          have hl := List.getElem?_eq_none_iff.mp ec
          have := (List.getElem?_eq_some_iff.mp hp).1
          omega
        | some q =>
          rw [ec] at e
          rw [List.getElem?_append_left (List.getElem?_eq_some_iff.mp e).1]
          exact e
      · rcases List.mem_append.mp (show q ∈ c1.ι ++ [p] from hq) with z | z
        · exact J.hi q z
        · rw [List.mem_singleton.mp z]
          exact ⟨n, hp, .inr (dd n dead_self)⟩
      · rcases List.mem_append.mp (show q ∈ c1.ι ++ [p] from hq) with z | z
        · rcases hh j q hj z with z | z
          · exact .inl z
          · exact .inr fun z2 => z (dead_set z2)
        · rw [List.mem_singleton.mp z] at hj
          have ejn : j = n := by
            obtain ⟨l1, e1⟩ := List.getElem?_eq_some_iff.mp hj
            obtain ⟨l2, e2⟩ := List.getElem?_eq_some_iff.mp hp
            exact (List.getElem_inj I.rs.nd).mp (e1.trans e2.symm)
          subst ejn
          exact .inr live
      · show (c1.ι ++ [p])[a1.length]? = some p
        rw [List.getElem?_append_right (by rw [J.ra.len]; exact Nat.le_refl _), J.ra.len, Nat.sub_self]
        rfl
    have start : OwnI K cA c H m (s.set n none) ca a := ⟨I.rs.drop, I.ra, I.f, I.lo, fun q hq => by
      obtain ⟨j, j1, j2⟩ := I.hi q hq
      exact ⟨j, j1, j2.imp id dead_set⟩⟩
    have mono : ∀ {c1 c2 : Cf}, c2.F = c1.F → c1.ι <+: c2.ι → Ext c1 (fun _ => none) c2 H := fun e1 e2 => ⟨by rw [e1]; exact Same.refl _, e2, fun _ _ z => by cases z⟩
    unfold own at h
    by_cases hm : n < m
    · rw [if_pos hm] at h
      cases h
      obtain ⟨p, hp, rfl⟩ := hv
      exact ⟨ca, I, List.prefix_refl _, fun _ z => z, fun _ _ _ z => .inl z, p, by rw [I.lo n hm]; exact hp, rfl⟩
    · rw [if_neg hm] at h
      split at h
      · rename_i xs e
        obtain ⟨p, u, rfl, e2, e3, e4, e5, vs, rfl, e7⟩ := I.rs.at e hv
        cases z : ownL (own m k) xs (s.set n none) a with
        | none => rw [z] at h; cases h
        | some r =>
          obtain ⟨ys, s2, a2⟩ := r
          rw [z] at h
          cases h
          obtain ⟨c1, g1, g2, g3, g4, g5⟩ := all xs ys vs _ _ _ _ ca z start e7
          exact fin p _ (.lst ys) _ _ _ c1 e e2 e4 e5 hm g1 g2 g3 g4 fun c2 h1 h2 => ⟨vs, rfl, RepVs.mono (mono h1 h2) g5⟩
      · rename_i xs e
        obtain ⟨p, u, rfl, e2, e3, e4, e5, vs, rfl, e7⟩ := I.rs.at e hv
        cases z : ownL (own m k) xs (s.set n none) a with
        | none => rw [z] at h; cases h
        | some r =>
          obtain ⟨ys, s2, a2⟩ := r
          rw [z] at h
          cases h
          obtain ⟨c1, g1, g2, g3, g4, g5⟩ := all xs ys vs _ _ _ _ ca z start e7
          exact fin p _ (.tup ys) _ _ _ c1 e e2 e4 e5 hm g1 g2 g3 g4 fun c2 h1 h2 => ⟨vs, rfl, RepVs.mono (mono h1 h2) g5⟩
      · rename_i kvs e
        obtain ⟨p, u, rfl, e2, e3, e4, e5, ws, rfl, e7⟩ := I.rs.at e hv
        obtain ⟨q1, q2⟩ := repVs_snd e7
        cases z : ownL (own m k) (kvs.map (·.2)) (s.set n none) a with
        | none => rw [z] at h; cases h
        | some r =>
          obtain ⟨ys, s2, a2⟩ := r
          rw [z] at h
          cases h
          obtain ⟨c1, g1, g2, g3, g4, g5⟩ := all _ ys _ _ _ _ _ ca z start q1
          exact fin p _ (.dct ((kvs.map (·.1)).zip ys)) _ _ _ c1 e e2 e4 e5 hm g1 g2 g3 g4 fun c2 h1 h2 => ⟨ws, rfl, repK_of q2 (RepVs.mono (mono h1 h2) g5)⟩
      · rename_i j pl e
        obtain ⟨p, u, rfl, e2, e3, e4, e5, e7⟩ := I.rs.at e hv
        split at h
        · rename_i hp0
          cases h
          refine fin p _ (.exn j pl) _ _ _ ca e e2 e4 e5 hm start (List.prefix_refl _) (fun _ z => z) (fun _ _ _ z => .inl z) fun c2 h1 h2 => ?_
          obtain ⟨dd, q, r⟩ := e7
          refine ⟨dd, q, ?_⟩
          cases pl with
          | none => exact r
          | some d =>
            cases d with
            | p q =>
              obtain ⟨b, v, r1, r2, r3⟩ := r
              have ef : c2.F = c.F := h1.trans I.f
              exact ⟨b, v, r1, by rw [ef]; exact r2, by show Dq K c2.F v q; rw [ef]; exact r3⟩
            | o _ => cases hp0
            | s _ => cases hp0
        · cases h
      · cases h
theorem own_end {c c' : Cf} {H H' : Hp} {s s' s3 s4 a : Sto} {d d' : D} {v : V} (r : Rep K cA c H s) (x : Ext c H c' H') (r' : Rep K cA c' H' s') (hv : RepV K c' d v) (hc : cut s s' = some s3) (h : own s.length 8 d s' s3 = some (d', s4, a)) : ∃ ca, Rep K cA ca H' a ∧ Ext c H ca H' ∧ RepV K ca d' v := by
  obtain ⟨r3, x3⟩ := r.cut x r' hc
  have I0 : OwnI K cA c' H' s.length s' ⟨c'.F, c.ι⟩ s3 := by
    refine ⟨r', r3, rfl, fun n hn => ?_, fun q hq => ?_⟩
    · show c.ι[n]? = c'.ι[n]?
      obtain ⟨t, e⟩ := x.i
      rw [← e, List.getElem?_append_left (by rw [r.len]; exact hn)]
    · have hq : q ∈ c.ι := hq
      obtain ⟨j, hj⟩ := List.mem_iff_getElem?.mp hq
      have lj := (List.getElem?_eq_some_iff.mp hj).1
      exact ⟨j, x.ix hj, .inl (by rw [← r.len]; exact lj)⟩
  obtain ⟨ca, I, px, _, _, g⟩ := own_ok (c := c') (H := H') (m := s.length) 8 h I0 hv
  refine ⟨ca, I.ra, ⟨?_, px, fun a o h1 h2 h3 => ?_⟩, g⟩
  · rw [I.f]
    exact x.f
  · obtain ⟨g1, g2, g3⟩ := x.k a o h1 h2 h3
    refine ⟨g1, by rw [I.f]; exact g2, fun m => ?_⟩
    obtain ⟨j, j1, _⟩ := I.hi a m
    exact g3 (List.mem_of_getElem? j1)
end
end
end G

namespace G
open PySem PySem.Spec PyProof.Rows L2
/-! ### further rules by values -/
section
variable {X : Cx}
theorem OpR.imp {f : Value → Value → Sem Value} {r r' : R2} (h : OpR X f r) (k : ∀ x y H Q, r' x y H Q → r x y H Q) : OpR X f r' := fun pins s σ H x y v u Q I rx ry q => h pins s σ H x y v u Q I rx ry (k _ _ _ _ q)
theorem CallR.imp {f : Value} {r r' : List V → Hp → VK → Prop} (h : CallR X f r) (k : ∀ x H Q, r' x H Q → r x H Q) : CallR X f r' := fun pins s σ H x v Q I rx q => h pins s σ H x v Q I rx (k _ _ _ q)
theorem MtR.imp {f : String} {r r' : V → List V → Hp → VK → Prop} (h : MtR X f r) (k : ∀ x y H Q, r' x y H Q → r x y H Q) : MtR X f r' := fun pins s σ H x xs v us Q I rx rxs q => h pins s σ H x xs v us Q I rx rxs (k _ _ _ _ q)
theorem IxR.imp {r r' : R2} (h : IxR X r) (k : ∀ x y H Q, r' x y H Q → r x y H Q) : IxR X r' := fun value slice pins s σ H x y v u Q I rx ry q => h value slice pins s σ H x y v u Q I rx ry (k _ _ _ _ q)
theorem PE.imp {e : Expr} {t t' : TE} (h : PE X e t) (k : ∀ σ H Q, t' σ H Q → t σ H Q) : PE X e t' := ⟨fun pins s σ H Q I q => h.run pins s σ H Q I (k _ _ _ q)⟩
theorem PT.imp {e : Expr} {t t' : TT} (h : PT X e t) (k : ∀ σ H Q, t' σ H Q → t σ H Q) : PT X e t' := ⟨fun pins s σ H Q I q => h.run pins s σ H Q I (k _ _ _ q)⟩
theorem PW.imp {e : Expr} {t t' : TT} (h : PW X e t) (k : ∀ σ H Q, t' σ H Q → t σ H Q) : PW X e t' := ⟨fun wh pins s σ H Q I q => h.run wh pins s σ H Q I (k _ _ _ q)⟩
theorem PA.imp {e : List Expr} {t t' : TA} (h : PA X e t) (k : ∀ σ H Q, t' σ H Q → t σ H Q) : PA X e t' := ⟨fun pos pins s σ H Q I q => h.run pos pins s σ H Q I (k _ _ _ q)⟩
theorem PS.imp {e : Stmt} {t t' : TS} (h : PS X e t) (k : ∀ D σ H, t' D σ H → t D σ H) : PS X e t' := ⟨fun pins s σ H D I q => h.run pins s σ H D I (k _ _ _ q)⟩
theorem PSs.imp {e : List Stmt} {t t' : TS} (h : PSs X e t) (k : ∀ D σ H, t' D σ H → t D σ H) : PSs X e t' := ⟨fun pins s σ H D I q => h.run pins s σ H D I (k _ _ _ q)⟩
theorem PI.imp {tg e : Expr} {t t' : TI} (h : PI X tg e t) (k : ∀ σ H R, t' σ H R → t σ H R) : PI X tg e t' := ⟨fun pins s σ H R I q => h.run pins s σ H R I (k _ _ _ q)⟩
theorem PG.imp {e : Expr} {t t' : TG} (h : PG X e t) (k : ∀ v σ H Q, t' v σ H Q → t v σ H Q) : PG X e t' := ⟨fun pins s σ H v u Q I r q => h.run pins s σ H v u Q I r (k _ _ _ _ q)⟩
theorem PG.or {e : Expr} {t t' : TG} (h : PG X e t) (h' : PG X e t') : PG X e (fun v σ H Q => t v σ H Q ∨ t' v σ H Q) := ⟨fun pins s σ H v u Q I r q => q.elim (fun q => h.run pins s σ H v u Q I r q) fun q => h'.run pins s σ H v u Q I r q⟩
theorem PI.or {tg e : Expr} {t t' : TI} (h : PI X tg e t) (h' : PI X tg e t') : PI X tg e (fun σ H R => t σ H R ∨ t' σ H R) := ⟨fun pins s σ H R I q => q.elim (fun q => h.run pins s σ H R I q) fun q => h'.run pins s σ H R I q⟩
theorem CallR.or {f : Value} {r r' : List V → Hp → VK → Prop} (h : CallR X f r) (h' : CallR X f r') : CallR X f (fun x H Q => r x H Q ∨ r' x H Q) := fun pins s σ H x v Q I rx q => q.elim (fun q => h pins s σ H x v Q I rx q) fun q => h' pins s σ H x v Q I rx q

def CPowW (i j : Int) : Prop := 0 ≤ j ∧ (Builtin.Int.intBits i : Int) * j ≤ 2 ^ 27
theorem op_powW : OpR X (binaryOp .Pow) (rI CPowW fun i j => .int (i ^ j.toNat)) := opI fun _ _ _ _ _ _ _ hc q => pow_int hc.1 hc.2 q
def rInT (K : PySem.W.Frag) : R2 := fun x y H Q => ∃ d ds, Dp K H x d ∧ Dp K H y (.tuple ds) ∧ SeqAt.shaped d = true ∧ SeqAt.shaped (.tuple ds) = true ∧ Q (.bl (ds.any fun z => PyData.eqv z d)) H
def rNotInT (K : PySem.W.Frag) : R2 := fun x y H Q => ∃ d ds, Dp K H x d ∧ Dp K H y (.tuple ds) ∧ SeqAt.shaped d = true ∧ SeqAt.shaped (.tuple ds) = true ∧ Q (.bl (!ds.any fun z => PyData.eqv z d)) H
theorem op_inT (hu : X.A.units + 65 < cLine) : OpR X (compareOp .In) (rInT X.K) := by
  intro pins s σ H x y v u Q I rx ry h
  obtain ⟨d, ds, hd, he, sd, se, q⟩ := h
  obtain ⟨as, r1⟩ := Dp.reads I d x v hd rx
  obtain ⟨bs, r2⟩ := Dp.reads I (.tuple ds) y u he ry
  exact SeqAt.in_tuple_reads r2 r1 (SeqAt.canLay_of_shaped se) (SeqAt.canLay_of_shaped sd) (room_in_shaped sd hu) ⟨.bl _, H, I, rfl, q⟩
theorem op_notInT (hu : X.A.units + 65 < cLine) : OpR X (compareOp .NotIn) (rNotInT X.K) := by
  intro pins s σ H x y v u Q I rx ry h
  obtain ⟨d, ds, hd, he, sd, se, q⟩ := h
  obtain ⟨as, r1⟩ := Dp.reads I d x v hd rx
  obtain ⟨bs, r2⟩ := Dp.reads I (.tuple ds) y u he ry
  exact SeqAt.notIn_tuple_reads r2 r1 (SeqAt.canLay_of_shaped se) (SeqAt.canLay_of_shaped sd) (room_in_shaped sd hu) ⟨.bl _, H, I, rfl, q⟩
/-! min, max of a tuple -/
section
variable {prog : Program} {w : World} {A : Around} {E : Value → Shared → Prop} {s : Shared} {l : Addr} {xs : Array (Int × Tok)}
theorem iter_intTup {Q : Value → Shared → Prop} (hl : s.heap.IsTuple l (intItems xs))
    (h : ∀ s₂ : Shared, s₂ = { s with heap := s.heap.push { cls := .type "tuple_iterator", data := .fields #[.ref l, .int 0 0] } } →
      (s₂.heap.IsTupleIter s.heap.objs.size l 0 ∧ s₂.heap.IsTuple l (intItems xs)) → (∀ b ∈ [s.heap.objs.size, l], b < s₂.heap.objs.size) → l ≠ s.heap.objs.size → Q (.ref s.heap.objs.size) s₂) :
    wpAny (model prog w) A (pyIter (.ref l)) Q E s := by
  have hlt : l < s.heap.objs.size := by obtain ⟨_, e, _⟩ := hl; exact Heap.lt_size e
  refine wpAny_pyIter_tuple hl (h _ rfl ⟨⟨_, Heap.get?_push_size _ rfl, rfl, rfl⟩, hl.push _⟩ (fun b hb => ?_) (Nat.ne_of_lt hlt))
  show b < (s.heap.push _).objs.size
  rw [Heap.size_push]
  rcases List.mem_cons.mp hb with rfl | hb
  · exact Nat.lt_succ_self _
  · rcases List.mem_cons.mp hb with rfl | hb
    · exact Nat.lt_succ_of_lt hlt
    · cases hb
theorem old_keptT {h' : Heap} (hk : ∀ b o, b ∉ [s.heap.objs.size] → (s.heap.push { cls := .type "tuple_iterator", data := .fields #[.ref l, .int 0 0] }).get? b = some o → h'.get? b = some o) :
    ∀ b o, s.heap.get? b = some o → h'.get? b = some o := fun b o e => by
  refine hk b o (fun hm => ?_) (Heap.get?_push_of_some _ e)
  rcases List.mem_cons.mp hm with e1 | hm
  · exact absurd (e1 ▸ Heap.lt_size e) (Nat.lt_irrefl _)
  · cases hm
theorem max_intTup {Q : Value → Shared → Prop} (hh : A.handled = none) (hl : s.heap.IsTuple l (intItems xs)) (hne : 0 < xs.size)
    (h : ∀ v h' tk, (intItems xs)[argBest (fun i j => decide (numAt xs i > numAt xs j)) (xs.size - 1)]? = some v → (∀ b o, s.heap.get? b = some o → h'.get? b = some o) → Q v { s with heap := h', toks := tk }) :
    wpAny (model prog w) A (call (.builtin "max") [.ref l]) Q E s := by
  refine call_max_walk (iter_intTup hl fun s₂ e st hfp hlI => ?_)
  subst e
  refine ⟨_, _, _, _, _, _, _, rfl, Walks.tuple (A := A.in1) hh _ l hlI (intItems xs), st, hfp, by simpa [intItems] using hne, CmpOf.ints_gt (numAt xs) (fun _ _ => intItems_at), fun v h' tk hP hk => ?_⟩
  exact h v h' tk (by simpa [intItems] using hP) (old_keptT hk)
theorem min_intTup {Q : Value → Shared → Prop} (hh : A.handled = none) (hl : s.heap.IsTuple l (intItems xs)) (hne : 0 < xs.size)
    (h : ∀ v h' tk, (intItems xs)[argBest (fun i j => decide (numAt xs i < numAt xs j)) (xs.size - 1)]? = some v → (∀ b o, s.heap.get? b = some o → h'.get? b = some o) → Q v { s with heap := h', toks := tk }) :
    wpAny (model prog w) A (call (.builtin "min") [.ref l]) Q E s := by
  refine call_min_walk (iter_intTup hl fun s₂ e st hfp hlI => ?_)
  subst e
  refine ⟨_, _, _, _, _, _, _, rfl, Walks.tuple (A := A.in1) hh _ l hlI (intItems xs), st, hfp, by simpa [intItems] using hne, CmpOf.ints_lt (numAt xs) (fun _ _ => intItems_at), fun v h' tk hP hk => ?_⟩
  exact h v h' tk (by simpa [intItems] using hP) (old_keptT hk)
variable {its : List Value} {ns : List Int} {Q : Value → Shared → Prop}
theorem max_rawT (hh : A.handled = none) (hl : s.heap.IsTuple l its.toArray) (hi : IntsAre its ns) (hne : 0 < ns.length)
    (h : ∀ h' tk M t', (∀ b o, s.heap.get? b = some o → h'.get? b = some o) → M ∈ ns → (∀ a, a ∈ ns → a ≤ M) → Q (.int M t') { s with heap := h', toks := tk }) : wpAny (model prog w) A (call (.builtin "max") [.ref l]) Q E s := by
  obtain ⟨xs, e⟩ := hi.allInts.items
  have hn : numsOf (intItems xs).toList = ns := by rw [← e]; exact hi.numsOf
  rw [nums_intItems] at hn
  subst hn
  rw [e] at hl
  have hsz : 0 < xs.size := by simpa using hne
  refine max_intTup hh hl hsz fun v h' tk hv hk => ?_
  obtain ⟨t, rfl⟩ := intItems_at hv
  obtain ⟨h1, h2⟩ := argBest_gt (numAt xs) (xs.size - 1)
  refine h h' tk _ t hk ?_ fun a ha => ?_
  · rw [numAt_eq]; exact PySem.getD_mem (by rw [List.length_map, Array.length_toList]; omega)
  · obtain ⟨j, hj, rfl⟩ := mem_getD ha
    rw [List.length_map, Array.length_toList] at hj
    rw [← numAt_eq]; exact h2 j (by omega)
theorem min_rawT (hh : A.handled = none) (hl : s.heap.IsTuple l its.toArray) (hi : IntsAre its ns) (hne : 0 < ns.length)
    (h : ∀ h' tk M t', (∀ b o, s.heap.get? b = some o → h'.get? b = some o) → M ∈ ns → (∀ a, a ∈ ns → M ≤ a) → Q (.int M t') { s with heap := h', toks := tk }) : wpAny (model prog w) A (call (.builtin "min") [.ref l]) Q E s := by
  obtain ⟨xs, e⟩ := hi.allInts.items
  have hn : numsOf (intItems xs).toList = ns := by rw [← e]; exact hi.numsOf
  rw [nums_intItems] at hn
  subst hn
  rw [e] at hl
  have hsz : 0 < xs.size := by simpa using hne
  refine min_intTup hh hl hsz fun v h' tk hv hk => ?_
  obtain ⟨t, rfl⟩ := intItems_at hv
  obtain ⟨h1, h2⟩ := argBest_lt (numAt xs) (xs.size - 1)
  refine h h' tk _ t hk ?_ fun a ha => ?_
  · rw [numAt_eq]; exact PySem.getD_mem (by rw [List.length_map, Array.length_toList]; omega)
  · obtain ⟨j, hj, rfl⟩ := mem_getD ha
    rw [List.length_map, Array.length_toList] at hj
    rw [← numAt_eq]; exact h2 j (by omega)
end
def rMaxT (K : PySem.W.Frag) : List V → Hp → VK → Prop := fun vs H Q => ∃ (a : Addr) (ns : List Int), vs = [V.ref a] ∧ SqT K H a (ns.map V.int) ∧ 0 < ns.length ∧ ∀ m, m ∈ ns → (∀ y, y ∈ ns → y ≤ m) → Q (.int m) H
def rMinT (K : PySem.W.Frag) : List V → Hp → VK → Prop := fun vs H Q => ∃ (a : Addr) (ns : List Int), vs = [V.ref a] ∧ SqT K H a (ns.map V.int) ∧ 0 < ns.length ∧ ∀ m, m ∈ ns → (∀ y, y ∈ ns → m ≤ y) → Q (.int m) H
theorem cr_maxT (hc : X.calm = true) : CallR X (.builtin "max") (rMaxT X.K) := by
  intro pins s σ H vs us Q I r h
  obtain ⟨a, ns, rfl, hs, hne, q⟩ := h
  obtain ⟨its, rv, hl, _⟩ := I.tuple hs
  rw [Vals.ref1 r]
  exact max_rawT (I.ok.hd hc) hl rv.ints hne fun h' tk m t' hk h1 h2 => ⟨.int _, H, I.kept hk, ⟨_, rfl⟩, q m h1 h2⟩
theorem cr_minT (hc : X.calm = true) : CallR X (.builtin "min") (rMinT X.K) := by
  intro pins s σ H vs us Q I r h
  obtain ⟨a, ns, rfl, hs, hne, q⟩ := h
  obtain ⟨its, rv, hl, _⟩ := I.tuple hs
  rw [Vals.ref1 r]
  exact min_rawT (I.ok.hd hc) hl rv.ints hne fun h' tk m t' hk h1 h2 => ⟨.int _, H, I.kept hk, ⟨_, rfl⟩, q m h1 h2⟩
end
end G

namespace G
open PySem PySem.Spec PyProof.Rows L2
open Classical
noncomputable section
/-! ### the operations by values -/
section
variable {K : PySem.W.Frag} {cA : Nat → Addr} {c : Cf} {H : Hp} {s : Sto} {d : D} {x : V}
theorem dInt_p {i : Int} (h : dInt d = some i) : d = .p (.int i) := by
  unfold dInt at h
  split at h
  · cases h; rfl
  · cases h
theorem dBool_p {i : Bool} (h : dBool d = some i) : d = .p (.bool i) := by
  unfold dBool at h
  split at h
  · cases h; rfl
  · cases h
theorem dStr_p {i : Str} (h : dStr d = some i) : d = .p (.str i) := by
  unfold dStr at h
  split at h
  · cases h; rfl
  · cases h
theorem v_int {i : Int} (h : RepV K c (.p (.int i)) x) : x = .int i := by cases h; rfl
theorem v_bool {i : Bool} (h : RepV K c (.p (.bool i)) x) : x = .bl i := by cases h; rfl
theorem v_str {i : Str} (h : RepV K c (.p (.str i)) x) : x = .str i := by cases h; rfl
theorem dInt_v {i : Int} (h : dInt d = some i) (r : RepV K c d x) : x = .int i := by
  rw [dInt_p h] at r
  exact v_int r
theorem dBool_v {i : Bool} (h : dBool d = some i) (r : RepV K c d x) : x = .bl i := by
  rw [dBool_p h] at r
  exact v_bool r
theorem dStr_v {i : Str} (h : dStr d = some i) (r : RepV K c d x) : x = .str i := by
  rw [dStr_p h] at r
  exact v_str r
theorem ok_int {i : Int} : RepV K c (.p (.int i)) (.int i) := .int i
theorem ok_bl {i : Bool} : RepV K c (.p (.bool i)) (.bl i) := .bl i
theorem ok_non : RepV K c (.p .none) .non := .non
end
section
variable {X : Cx} {cA : Nat → Addr}
def rB (K : PySem.W.Frag) (cA : Nat → Addr) (g : D → D → Sto → R D) : R2 := fun x y H Q => ∃ c d1 d2 s W, Rep K cA c H s ∧ RepV K c d1 x ∧ RepV K c d2 y ∧ Post K cA c H (g d1 d2 s) (okQ K Q) W
def rU1 (K : PySem.W.Frag) (cA : Nat → Addr) (g : D → Sto → R D) : List V → Hp → VK → Prop := fun xs H Q => ∃ x c d s W, xs = [x] ∧ Rep K cA c H s ∧ RepV K c d x ∧ Post K cA c H (g d s) (okQ K Q) W
/-- which operator -/
def aBop : Bop → Operator
  | .add => .Add
  | .sub => .Sub
  | .mul => .Mult
  | .fdiv => .FloorDiv
  | .mod => .Mod
  | .pow => .Pow
def aCop : Cop → CmpOp
  | .eq => .Eq
  | .ne => .NotEq
  | .lt => .Lt
  | .le => .LtE
  | .gt => .Gt
  | .ge => .GtE
  | .is_ => .Is
  | .isn => .IsNot
  | .in_ => .In
  | .nin => .NotIn
theorem repVs_append {K : PySem.W.Frag} {c : Cf} : ∀ {xs ys : List D} {vs ws : List V}, RepVs K c xs vs → RepVs K c ys ws → RepVs K c (xs ++ ys) (vs ++ ws)
  | _, _, _, _, .nil, h => h
  | _, _, _, _, .cons a t, h => .cons a (repVs_append t h)
theorem repVs_rep {K : PySem.W.Frag} {c : Cf} {xs : List D} {vs : List V} (h : RepVs K c xs vs) : ∀ n : Nat, RepVs K c (List.replicate n xs).flatten (List.replicate n vs).flatten
  | 0 => .nil
  | n + 1 => by
    rw [List.replicate_succ, List.replicate_succ, List.flatten_cons, List.flatten_cons]
    exact repVs_append h (repVs_rep h n)
theorem ob_bin (op : Bop) (fl : Bool) : OpR X (binaryOp (aBop op)) (rB X.K cA (binop op fl)) := by
  cases op with
  | add =>
    refine OpR.imp (OpR.or op_add (OpR.or op_cat op_add_str)) ?_
    rintro x y H Q ⟨c, d1, d2, s, W, r, h1, h2, h⟩
    have cat : Post X.K cA c H (match asL s d1, asL s d2 with
      | some xs, some ys => mkL fl (xs ++ ys) s
      | _, _ => (match dStr d1, dStr d2 with
        | some a, some b => if a.length + b.length ≤ LIM then .ok (.p (.str (a ++ b))) s else .bad
        | _, _ => .bad)) (okQ X.K Q) W → rCat x y H Q ∨ (∃ i j, x = V.str i ∧ y = V.str j ∧ i.length + j.length ≤ sizeLine ∧ Q (.str (i ++ j)) H) := fun h => by
      have txt : Post X.K cA c H (match dStr d1, dStr d2 with
        | some a, some b => if a.length + b.length ≤ LIM then .ok (.p (.str (a ++ b))) s else .bad
        | _, _ => .bad) (okQ X.K Q) W → (∃ i j, x = V.str i ∧ y = V.str j ∧ i.length + j.length ≤ sizeLine ∧ Q (.str (i ++ j)) H) := fun h => by
        cases e1 : dStr d1 with
        | none => rw [e1] at h; exact h.elim
        | some i =>
          cases e2 : dStr d2 with
          | none => rw [e1, e2] at h; exact h.elim
          | some j =>
            rw [e1, e2] at h
            obtain ⟨hc, h⟩ := h.if_
            exact ⟨i, j, dStr_v e1 h1, dStr_v e2 h2, lim_le hc, h.ok r _ (.str _)⟩
      cases e1 : asL s d1 with
      | none => rw [e1] at h; exact .inr (txt h)
      | some xs =>
        cases e2 : asL s d2 with
        | none => rw [e1, e2] at h; exact .inr (txt h)
        | some ys =>
          rw [e1, e2] at h
          obtain ⟨a, vs, rfl, ha, hv⟩ := r.asL e1 h1
          obtain ⟨b, ws, rfl, hb, hw⟩ := r.asL e2 h2
          obtain ⟨l1, l2⟩ := mkL_new r (repVs_append hv hw) h
          exact .inl ⟨a, b, vs, ws, rfl, rfl, ha, hb, by rw [← List.length_append]; exact lim_le l1, l2⟩
    unfold binop at h
    cases e1 : dInt d1 with
    | none => rw [e1] at h; exact .inr (cat h)
    | some i =>
      cases e2 : dInt d2 with
      | none => rw [e1, e2] at h; exact .inr (cat h)
      | some j =>
        rw [e1, e2] at h
        exact .inl ⟨i, j, dInt_v e1 h1, dInt_v e2 h2, h.ok r _ ok_int⟩
  | sub =>
    refine OpR.imp op_sub ?_
    rintro x y H Q ⟨c, d1, d2, s, W, r, h1, h2, h⟩
    unfold binop at h
    cases e1 : dInt d1 with
    | none => rw [e1] at h; exact h.elim
    | some i =>
      cases e2 : dInt d2 with
      | none => rw [e1, e2] at h; exact h.elim
      | some j =>
        rw [e1, e2] at h
        exact ⟨i, j, dInt_v e1 h1, dInt_v e2 h2, h.ok r _ ok_int⟩
  | mul =>
    refine OpR.imp (OpR.or (OpR.or op_mul op_mulW) op_rep) ?_
    rintro x y H Q ⟨c, d1, d2, s, W, r, h1, h2, h⟩
    unfold binop at h
    cases e2 : dInt d2 with
    | none =>
      cases e1 : dInt d1 with
      | none => rw [e1, e2] at h; exact h.elim
      | some i => rw [e1, e2] at h; exact h.elim
    | some j =>
      cases e1 : dInt d1 with
      | none =>
        rw [e1, e2] at h
        cases e3 : asL s d1 with
        | none => rw [e3] at h; exact h.elim
        | some xs =>
          rw [e3] at h
          obtain ⟨⟨k1, k2, k3⟩, h⟩ := h.if_
          obtain ⟨a, vs, rfl, ha, hv⟩ := r.asL e3 h1
          obtain ⟨l1, l2⟩ := mkL_new r (repVs_rep hv j.toNat) h
          refine .inr ⟨a, j, vs, rfl, dInt_v e2 h2, ha, by omega, by omega, ?_, l2⟩
          have e := Paired.length hv
          have : vs.length * j.toNat ≤ 1000 * 1000 := Nat.mul_le_mul (by omega) (by omega)
          exact Nat.le_trans this (by decide)
      | some i =>
        rw [e1, e2] at h
        obtain ⟨hc, h⟩ := h.if_
        rcases hc with hc | hc
        · exact .inl (.inl ⟨i, j, dInt_v e1 h1, dInt_v e2 h2, hc, h.ok r _ ok_int⟩)
        · exact .inl (.inr ⟨i, j, dInt_v e1 h1, dInt_v e2 h2, hc, h.ok r _ ok_int⟩)
  | fdiv =>
    refine OpR.imp (OpR.or op_fdiv op_fdivW) ?_
    rintro x y H Q ⟨c, d1, d2, s, W, r, h1, h2, h⟩
    unfold binop at h
    cases e1 : dInt d1 with
    | none => rw [e1] at h; exact h.elim
    | some i =>
      cases e2 : dInt d2 with
      | none => rw [e1, e2] at h; exact h.elim
      | some j =>
        rw [e1, e2] at h
        obtain ⟨⟨k1, k2⟩, h⟩ := h.if_
        rcases k2 with k2 | k2
        · exact .inl ⟨i, j, dInt_v e1 h1, dInt_v e2 h2, ⟨k1, k2⟩, h.ok r _ ok_int⟩
        · exact .inr ⟨i, j, dInt_v e1 h1, dInt_v e2 h2, ⟨k1, k2⟩, h.ok r _ ok_int⟩
  | mod =>
    refine OpR.imp op_mod ?_
    rintro x y H Q ⟨c, d1, d2, s, W, r, h1, h2, h⟩
    unfold binop at h
    cases e1 : dInt d1 with
    | none => rw [e1] at h; exact h.elim
    | some i =>
      cases e2 : dInt d2 with
      | none => rw [e1, e2] at h; exact h.elim
      | some j =>
        rw [e1, e2] at h
        obtain ⟨k1, h⟩ := h.if_
        exact ⟨i, j, dInt_v e1 h1, dInt_v e2 h2, k1, h.ok r _ ok_int⟩
  | pow =>
    refine OpR.imp op_powW ?_
    rintro x y H Q ⟨c, d1, d2, s, W, r, h1, h2, h⟩
    unfold binop at h
    cases e1 : dInt d1 with
    | none => rw [e1] at h; exact h.elim
    | some i =>
      cases e2 : dInt d2 with
      | none => rw [e1, e2] at h; exact h.elim
      | some j =>
        rw [e1, e2] at h
        obtain ⟨k1, h⟩ := h.if_
        exact ⟨i, j, dInt_v e1 h1, dInt_v e2 h2, k1, h.ok r _ ok_int⟩
theorem sEr_ok {K : PySem.W.Frag} {c : Cf} {H : Hp} {s : Sto} {d1 d2 : D} {x y : V} {k : Bool} (r : Rep K cA c H s) (h1 : RepV K c d1 x) (h2 : RepV K c d2 y) (e : sEr d1 d2 s = some k) :
    ∃ a b, Dp K H x a ∧ Dp K H y b ∧ SeqAt.shaped a = true ∧ SeqAt.shaped b = true ∧ PyData.eqv a b = k := by
  unfold sEr at e
  cases e1 : res 8 s d1 with
  | none => rw [e1] at e; cases e
  | some a =>
    cases e2 : res 8 s d2 with
    | none => rw [e1, e2] at e; cases e
    | some b =>
      rw [e1, e2] at e
      dsimp only at e
      split at e
      · rename_i hs
        cases e
        exact ⟨a, b, r.res 8 e1 h1, r.res 8 e2 h2, hs.1, hs.2, rfl⟩
      · cases e
theorem sEq_ok {K : PySem.W.Frag} {c : Cf} {H : Hp} {s : Sto} {d1 d2 : D} {x y : V} {k : Bool} (r : Rep K cA c H s) (h1 : RepV K c d1 x) (h2 : RepV K c d2 y) (e : sEq d1 d2 s = some k) :
    (∃ a b : Str, x = .str a ∧ y = .str b ∧ decide (a = b) = k) ∨ ∃ a b, Dp K H x a ∧ Dp K H y b ∧ SeqAt.shaped a = true ∧ SeqAt.shaped b = true ∧ PyData.eqv a b = k := by
  unfold sEq at e
  split at e
  · rename_i b' q
    cases e
    unfold sEs at q
    split at q
    · cases q
      cases h1
      cases h2
      exact .inl ⟨_, _, rfl, rfl, rfl⟩
    · cases q
  · exact .inr (sEr_ok r h1 h2 e)
theorem dec_str {a b : Str} : decide (V.str a = V.str b) = decide (a = b) := by
  by_cases h : a = b
  · subst h
    simp
  · rw [decide_eq_false h, decide_eq_false fun z => h (V.str.inj z)]
theorem v_isNone {K : PySem.W.Frag} {c : Cf} {d : D} {y : V} (h : RepV K c d y) : isNone d = decide (y = .non) := by
  cases d with
  | p q =>
    cases h with
    | non => rfl
    | bl b => exact (decide_eq_false (fun z => by cases z)).symm
    | int b => exact (decide_eq_false (fun z => by cases z)).symm
    | str b => exact (decide_eq_false (fun z => by cases z)).symm
    | lst h t => exact (decide_eq_false (fun z => by cases z)).symm
    | tup h t => exact (decide_eq_false (fun z => by cases z)).symm
  | o n =>
    obtain ⟨a, _, rfl⟩ := h
    exact (decide_eq_false (fun z => by cases z)).symm
  | s l =>
    obtain ⟨a, _, rfl, _⟩ := h
    exact (decide_eq_false (fun z => by cases z)).symm
theorem str_one {a : Str} (h : a.cps.size = 1) : a = ⟨#[a.cps.getD 0 0]⟩ := by
  obtain ⟨⟨l⟩⟩ := a
  match l, h with
  | [x], _ => rfl
theorem sIn_ok {K : PySem.W.Frag} {c : Cf} {H : Hp} {s : Sto} {d1 d2 : D} {x y : V} {k : Bool} (r : Rep K cA c H s) (h1 : RepV K c d1 x) (h2 : RepV K c d2 y) (e : sIn d1 d2 s = some k) :
    (∃ (q : Nat) (z : Str), x = .str ⟨#[q]⟩ ∧ y = .str z ∧ decide (q ∈ z.cps.toList) = k) ∨
    (∃ d ds, Dp K H x d ∧ Dp K H y (.list ds) ∧ SeqAt.shaped d = true ∧ SeqAt.shaped (.list ds) = true ∧ (ds.any fun z => PyData.eqv z d) = k) ∨
    (∃ d ds, Dp K H x d ∧ Dp K H y (.tuple ds) ∧ SeqAt.shaped d = true ∧ SeqAt.shaped (.tuple ds) = true ∧ (ds.any fun z => PyData.eqv z d) = k) := by
  have gen : ∀ a : PyData, res 8 s d1 = some a → (match res 8 s d2 with
    | some (.list ds) => if SeqAt.shaped a = true ∧ SeqAt.shaped (.list ds) = true then some (ds.any fun z => PyData.eqv z a) else none
    | some (.tuple ds) => if SeqAt.shaped a = true ∧ SeqAt.shaped (.tuple ds) = true then some (ds.any fun z => PyData.eqv z a) else none
    | _ => none) = some k → (∃ d ds, Dp K H x d ∧ Dp K H y (.list ds) ∧ SeqAt.shaped d = true ∧ SeqAt.shaped (.list ds) = true ∧ (ds.any fun z => PyData.eqv z d) = k) ∨
    (∃ d ds, Dp K H x d ∧ Dp K H y (.tuple ds) ∧ SeqAt.shaped d = true ∧ SeqAt.shaped (.tuple ds) = true ∧ (ds.any fun z => PyData.eqv z d) = k) := fun a e1 e => by
    split at e
    · rename_i ds e2
      split at e
      · rename_i hs
        cases e
        exact .inl ⟨a, ds, r.res 8 e1 h1, r.res 8 e2 h2, hs.1, hs.2, rfl⟩
      · cases e
    · rename_i ds e2
      split at e
      · rename_i hs
        cases e
        exact .inr ⟨a, ds, r.res 8 e1 h1, r.res 8 e2 h2, hs.1, hs.2, rfl⟩
      · cases e
    · cases e
  unfold sIn at e
  split at e
  · rename_i a z e1
    split at e
    · rename_i hs
      cases e
      have q := r.res 8 e1 h1
      cases q
      refine .inl ⟨a.cps.getD 0 0, z, ?_, v_str h2, rfl⟩
      rw [← str_one hs]
    · cases e
  · rename_i a e1 hno
    exact .inr (gen a e1 e)
  · cases e
theorem ob_cmp (hr : X.A.units + 65 < cLine) (op : Cop) : OpR X (compareOp (aCop op)) (rB X.K cA (cmpop op)) := by
  cases op with
  | eq =>
    refine OpR.imp (OpR.or op_eq (op_eqD (by omega))) ?_
    rintro x y H Q ⟨c, d1, d2, s, W, r, h1, h2, h⟩
    obtain ⟨k, e, h⟩ := Post.bR h
    rcases sEq_ok r h1 h2 e with ⟨a, b, rfl, rfl, g5⟩ | ⟨a, b, g1, g2, g3, g4, g5⟩
    · exact .inl ⟨rfl, by rw [dec_str, g5]; exact h.ok r _ ok_bl⟩
    · exact .inr ⟨a, b, g1, g2, g3, g4, by rw [g5]; exact h.ok r _ ok_bl⟩
  | ne =>
    refine OpR.imp (OpR.or op_ne (op_neD (by omega))) ?_
    rintro x y H Q ⟨c, d1, d2, s, W, r, h1, h2, h⟩
    obtain ⟨k, e, h⟩ := Post.bR h
    cases e1 : sEq d1 d2 s with
    | none => rw [e1] at e; cases e
    | some k' =>
      rw [e1] at e
      have ek : (!k') = k := Option.some.inj e
      rcases sEq_ok r h1 h2 e1 with ⟨a, b, rfl, rfl, g5⟩ | ⟨a, b, g1, g2, g3, g4, g5⟩
      · exact .inl ⟨rfl, by rw [dec_str, g5, ek]; exact h.ok r _ ok_bl⟩
      · exact .inr ⟨a, b, g1, g2, g3, g4, by rw [g5, ek]; exact h.ok r _ ok_bl⟩
  | is_ =>
    refine OpR.imp op_isN ?_
    rintro x y H Q ⟨c, d1, d2, s, W, r, h1, h2, h⟩
    obtain ⟨e, h⟩ := h.if_
    rw [v_isNone h2] at e
    rw [v_isNone h1] at h
    exact ⟨of_decide_eq_true e, h.ok r _ ok_bl⟩
  | isn =>
    refine OpR.imp op_notN ?_
    rintro x y H Q ⟨c, d1, d2, s, W, r, h1, h2, h⟩
    obtain ⟨e, h⟩ := h.if_
    rw [v_isNone h2] at e
    rw [v_isNone h1] at h
    exact ⟨of_decide_eq_true e, h.ok r _ ok_bl⟩
  | in_ =>
    refine OpR.imp (OpR.or op_in_sign (OpR.or (op_inD hr) (op_inT hr))) ?_
    rintro x y H Q ⟨c, d1, d2, s, W, r, h1, h2, h⟩
    obtain ⟨k, e, h⟩ := Post.bR h
    rcases sIn_ok r h1 h2 e with ⟨q, z, g1, g2, g3⟩ | ⟨d, ds, g1, g2, g3, g4, g5⟩ | ⟨d, ds, g1, g2, g3, g4, g5⟩
    · exact .inl ⟨q, z, g1, g2, by rw [g3]; exact h.ok r _ ok_bl⟩
    · exact .inr (.inl ⟨d, ds, g1, g2, g3, g4, by rw [g5]; exact h.ok r _ ok_bl⟩)
    · exact .inr (.inr ⟨d, ds, g1, g2, g3, g4, by rw [g5]; exact h.ok r _ ok_bl⟩)
  | nin =>
    refine OpR.imp (OpR.or op_notIn_sign (OpR.or (op_notInD hr) (op_notInT hr))) ?_
    rintro x y H Q ⟨c, d1, d2, s, W, r, h1, h2, h⟩
    obtain ⟨k, e, h⟩ := Post.bR h
    cases e1 : sIn d1 d2 s with
    | none => rw [e1] at e; cases e
    | some k' =>
      rw [e1] at e
      have ek : (!k') = k := Option.some.inj e
      rcases sIn_ok r h1 h2 e1 with ⟨q, z, g1, g2, g3⟩ | ⟨d, ds, g1, g2, g3, g4, g5⟩ | ⟨d, ds, g1, g2, g3, g4, g5⟩
      · exact .inl ⟨q, z, g1, g2, by rw [g3, ek]; exact h.ok r _ ok_bl⟩
      · exact .inr (.inl ⟨d, ds, g1, g2, g3, g4, by rw [g5, ek]; exact h.ok r _ ok_bl⟩)
      · exact .inr (.inr ⟨d, ds, g1, g2, g3, g4, by rw [g5, ek]; exact h.ok r _ ok_bl⟩)
  | lt =>
    refine OpR.imp (OpR.or op_lt op_lt_str) ?_
    rintro x y H Q ⟨c, d1, d2, s, W, r, h1, h2, h⟩
    unfold cmpop at h
    dsimp only at h
    split at h
    · rename_i i j e1 e2
      exact .inl ⟨i, j, dInt_v e1 h1, dInt_v e2 h2, h.ok r _ ok_bl⟩
    · cases e1 : dStr d1 with
      | none => rw [e1] at h; exact h.elim
      | some i =>
        cases e2 : dStr d2 with
        | none => rw [e1, e2] at h; exact h.elim
        | some j =>
          rw [e1, e2] at h
          exact .inr ⟨i, j, dStr_v e1 h1, dStr_v e2 h2, h.ok r _ ok_bl⟩
  | le =>
    refine OpR.imp (OpR.or op_le op_le_str) ?_
    rintro x y H Q ⟨c, d1, d2, s, W, r, h1, h2, h⟩
    unfold cmpop at h
    dsimp only at h
    split at h
    · rename_i i j e1 e2
      exact .inl ⟨i, j, dInt_v e1 h1, dInt_v e2 h2, h.ok r _ ok_bl⟩
    · cases e1 : dStr d1 with
      | none => rw [e1] at h; exact h.elim
      | some i =>
        cases e2 : dStr d2 with
        | none => rw [e1, e2] at h; exact h.elim
        | some j =>
          rw [e1, e2] at h
          exact .inr ⟨i, j, dStr_v e1 h1, dStr_v e2 h2, h.ok r _ ok_bl⟩
  | gt =>
    refine OpR.imp op_gt ?_
    rintro x y H Q ⟨c, d1, d2, s, W, r, h1, h2, h⟩
    unfold cmpop at h
    dsimp only at h
    split at h
    · rename_i i j e1 e2
      exact ⟨i, j, dInt_v e1 h1, dInt_v e2 h2, h.ok r _ ok_bl⟩
    · exact h.elim
  | ge =>
    refine OpR.imp op_ge ?_
    rintro x y H Q ⟨c, d1, d2, s, W, r, h1, h2, h⟩
    unfold cmpop at h
    dsimp only at h
    split at h
    · rename_i i j e1 e2
      exact ⟨i, j, dInt_v e1 h1, dInt_v e2 h2, h.ok r _ ok_bl⟩
    · exact h.elim
end
end
end G

namespace G
open PySem PySem.Spec PyProof.Rows L2
/-! ### defs called where no repr is under way (so that repr can be told); with the wish of what is raised at the caller's slots -/
structure FnG (P : Program) (w : World) (K : PySem.W.Frag) (mg : Str → Option Value) (base : Heap) (k : Nat) (f : Addr) (fd : FuncData) (ps : List Str) (sp : Sp) : Prop where
  len : ∀ vs H Q E, sp vs H Q E → vs.length = ps.length
  run : ∀ (A : Around) (outer : List PySem.Env) (s : Shared) (H : Hp) (args : Args) (us : List Value) (vs : List V) (Q : VK) (E : XK), Room k A → A.guards = some [] → Env0 P w K mg base A outer s H → BindsTo s fd args (ps.zip us) → Vals vs us → sp vs H Q E →
    codeAny (model P w) A (.call (.ref f) args) (CR (L2.CX P w) outer P w H s Q E) s
theorem FnG.mono {P : Program} {w : World} {K : PySem.W.Frag} {mg : Str → Option Value} {base : Heap} {j k : Nat} {f : Addr} {fd : FuncData} {ps : List Str} {sp : Sp} (F : FnG P w K mg base j f fd ps sp) (h : j ≤ k) : FnG P w K mg base k f fd ps sp :=
  ⟨F.len, fun A outer s H args us vs Q E hr => F.run A outer s H args us vs Q E (hr.mono h)⟩
section
variable {X : Cx} {k : Nat} {f C : Addr} {fd : FuncData} {ps : List Str} {sp : Sp} {E : L2.St → XK} {x m : Str} {p pos apos : Pos} {e o : Expr} {es : List Expr} {ta : TE} {t : TA}
theorem run_fnG {pins : List (Addr × Obj)} {σ : L2.St} {H : Hp} {s : Shared} {Q : VK} {us : List Value} {vs : List V} (F : FnG X.prog X.w X.K X.mg X.base k f fd ps sp) (hr : Room k X.A) (hg : X.A.guards = some []) (hb : Binds X.K fd ps []) (hx : PassesAt (L2.CX X.prog X.w) X σ (E σ))
    (I : Inv X pins σ H s) (r : Vals vs us) (h : sp vs H Q (E σ)) : wpAny (model X.prog X.w) X.A (call (.ref f) us) (EP X pins σ Q) X.xe s := by
  have hl : us.length = ps.length := by rw [← r.length]; exact F.len _ _ _ _ h
  have b := hb s us I.kIn (by rw [List.append_nil]; exact hl)
  rw [List.append_nil] at b
  refine wpAny_call (codeAny_mono (F.run X.A X.stack s H ⟨us, []⟩ us vs Q (E σ) hr hg I.env0 b r h) fun r s' hq => ?_)
  cases r with
  | error e => exact hx pins H s e s' I hq
  | ok fl =>
    cases fl with
    | ret u => exact I.after hq
    | next => exact False.elim hq
    | brk => exact False.elim hq
    | cont => exact False.elim hq
theorem pe_callG (F : FnG X.prog X.w X.K X.mg X.base k f fd ps sp) (hr : Room k X.A) (hgd : X.A.guards = some []) (hg : Gl X x) (hm : X.mg x = some (.ref f)) (hk : PySem.W.keepIn X.K (.ref f) = true) (hb : Binds X.K fd ps []) (hx : ∀ σ, PassesAt (L2.CX X.prog X.w) X σ (E σ))
    (ha : PA X (e :: es) t) (hdb : (x == ("__debug__" : Str)) = false) (he : starEach (e :: es) X.env = (false, eval e X.env) :: starEach es X.env) (hpl : (backTo pos (starEach es X.env)).any (·.1) = false) :
    PE X (.Call (.Name x p) (e :: es) [] pos) (tCallS sp E t) := by
  refine ⟨fun pins s σ H Q I h => ?_⟩
  refine wpAny_Call_Name_kw (ld_glob I hg hm ?_ hdb)
  refine PySem.W.callWith_K (h₀ := X.base) I.ok.mod.kin hk (thn (ha.run pos pins s σ H _ I h) fun us s1 ⟨vs, H1, I1, r, q⟩ => ⟨I1.kIn, ?_⟩) he hpl
  exact run_fnG F hr hgd hb (hx σ) I1 r q
/-- f(e, .., k = v, ..) -/
def tCallKS (n m : Nat) (sp : Sp) (E : L2.St → XK) (t tk : TA) : TE := fun σ H Q => t σ H fun vs H1 => tk σ H1 fun zs H2 => vs.length = n ∧ zs.length = m ∧ sp (vs ++ zs) H2 Q (E σ)
theorem run_fnKG {pins : List (Addr × Obj)} {σ : L2.St} {H : Hp} {s : Shared} {Q : VK} {us ws : List Value} {vs zs : List V} {n : Nat} {ks : List Str} (F : FnG X.prog X.w X.K X.mg X.base k f fd ps sp) (hr : Room k X.A) (hg : X.A.guards = some []) (hb : L2.KBn X.K fd ps n ks (fun us ws => us ++ ws) (fun vs zs => vs ++ zs)) (hx : PassesAt (L2.CX X.prog X.w) X σ (E σ))
    (I : Inv X pins σ H s) (r : Vals vs us) (rz : Vals zs ws) (l1 : vs.length = n) (l2 : zs.length = ks.length) (h : sp (vs ++ zs) H Q (E σ)) : wpAny (model X.prog X.w) X.A (call (.ref f) us (ks.zip ws)) (EP X pins σ Q) X.xe s := by
  have r2 := hb.rel r rz
  refine wpAny_call (codeAny_mono (F.run X.A X.stack s H ⟨us, ks.zip ws⟩ (us ++ ws) (vs ++ zs) Q (E σ) hr hg I.env0 (hb.to s us ws I.kIn (r.length.symm.trans l1) (rz.length.symm.trans l2)) r2 h) fun r s' hq => ?_)
  cases r with
  | error e => exact hx pins H s e s' I hq
  | ok fl =>
    cases fl with
    | ret u => exact I.after hq
    | next => exact False.elim hq
    | brk => exact False.elim hq
    | cont => exact False.elim hq
theorem pe_callKG {n : Nat} {ks : List Str} {kws : List Keyword} {tk : TA} (F : FnG X.prog X.w X.K X.mg X.base k f fd ps sp) (hr : Room k X.A) (hgd : X.A.guards = some []) (hg : Gl X x) (hm : X.mg x = some (.ref f)) (hk : PySem.W.keepIn X.K (.ref f) = true) (hb : L2.KBn X.K fd ps n ks (fun us ws => us ++ ws) (fun vs zs => vs ++ zs)) (hx : ∀ σ, PassesAt (L2.CX X.prog X.w) X σ (E σ))
    (ha : PA X (e :: es) t) (hkw : PK X kws tk) (hdb : (x == ("__debug__" : Str)) = false) (hall : (backToKw pos (keywordEach kws X.env)).all (·.1.isSome) = true) (hks : (backToKw pos (keywordEach kws X.env)).filterMap (·.1) = ks) (he : starEach (e :: es) X.env = (false, eval e X.env) :: starEach es X.env)
    (hpl : ((backTo pos (starEach (e :: es) X.env)).any (·.1) || (backToKw pos (keywordEach kws X.env)).any (·.1.isNone)) = false) :
    PE X (.Call (.Name x p) (e :: es) kws pos) (tCallKS n ks.length sp E t tk) := by
  refine ⟨fun pins s σ H Q I h => ?_⟩
  refine wpAny_Call_Name_kw (ld_glob I hg hm ?_ hdb)
  refine PySem.W.callWith_KW (h₀ := X.base) I.ok.mod.kin hk hall (thn (ha.run pos pins s σ H _ I h) fun us s1 ⟨vs, H1, I1, r, q⟩ => ?_) hpl he
  refine thn (hkw.run pos pins s1 σ H1 _ I1 q) fun ws s2 ⟨zs, H2, I2, rz, l1, l2, q2⟩ => ⟨I2.kIn, ?_⟩
  rw [hks]
  exact run_fnKG F hr hgd hb (hx σ) I2 r rz l1 l2 q2
theorem pe_call0G (F : FnG X.prog X.w X.K X.mg X.base k f fd ps sp) (hr : Room k X.A) (hgd : X.A.guards = some []) (hg : Gl X x) (hm : X.mg x = some (.ref f)) (hk : PySem.W.keepIn X.K (.ref f) = true) (hb : Binds X.K fd ps []) (hx : ∀ σ, PassesAt (L2.CX X.prog X.w) X σ (E σ))
    (hdb : (x == ("__debug__" : Str)) = false) : PE X (.Call (.Name x p) [] [] pos) (tCallS sp E tNil) := by
  refine ⟨fun pins s σ H Q I h => ?_⟩
  refine wpAny_Call_Name_kw (ld_glob I hg hm ?_ hdb)
  exact PySem.W.callWith_K0 I.kIn hk (run_fnG (us := []) F hr hgd hb (hx σ) I .nil h)
def tMethG (C : Addr) (m : Str) (sp : Sp) (E : L2.St → XK) (ta : TE) (t : TA) : TE := fun σ H Q => ta σ H fun x H1 => ∃ a dx fs, x = .ref a ∧ H1 a = some (.ins C dx fs) ∧ fs.lookup m = none ∧
  t σ H1 fun vs H2 => sp (x :: vs) H2 Q (E σ)
theorem pe_methG {pl : Sem Bool} (he : PE X o ta) (c : Cls X.K C) (hm : Meth X.K C m f) (F : FnG X.prog X.w X.K X.mg X.base k f fd ps sp) (hr : Room k X.A) (hgd : X.A.guards = some []) (hb : Binds X.K fd ps []) (hx : ∀ σ, PassesAt (L2.CX X.prog X.w) X σ (E σ)) (ha : PA X (e :: es) t)
    (hst : starEach (e :: es) X.env = (false, eval e X.env) :: starEach es X.env) (hpl : (backTo pos (starEach es X.env)).any (·.1) = false)
    (ht : eval (.Call (.Attribute o m apos) (e :: es) [] pos) X.env = (do
      let ov ← eval o X.env
      standAt apos.atName
      let (f, first) ← holding [ov] (getMethod ov m pl)
      callWith pos f first (backTo pos (starEach (e :: es) X.env)) (backToKw pos (keywordEach [] X.env)))) :
    PE X (.Call (.Attribute o m apos) (e :: es) [] pos) (tMethG C m sp E ta t) := by
  refine ⟨fun pins s σ H Q I h => ?_⟩
  refine PySem.W.methodCall_KW (pl := pl) (thn (he.run pins s σ H _ I h) fun u s1 ⟨x, H1, I1, rx, a, dx, fs, ex, ea, l, q⟩ => ?_) ht
  subst ex
  obtain rfl : u = Value.ref a := rx
  refine getmeth_ok I1 ea c hm l ?_
  refine PySem.W.callWith_K (first := [.ref a]) (h₀ := X.base) I.ok.mod.kin hm.kp (thn (ha.run pos pins s1 σ H1 _ I1 q) fun us s2 ⟨vs, H2, I2, r, q2⟩ => ⟨I2.kIn, ?_⟩) hst hpl
  exact run_fnG (us := .ref a :: us) (vs := .ref a :: vs) F hr hgd hb (hx σ) I2 (.cons rfl r) q2
theorem pe_meth0G {pl : Sem Bool} (he : PE X o ta) (c : Cls X.K C) (hm : Meth X.K C m f) (F : FnG X.prog X.w X.K X.mg X.base k f fd ps sp) (hr : Room k X.A) (hgd : X.A.guards = some []) (hb : Binds X.K fd ps []) (hx : ∀ σ, PassesAt (L2.CX X.prog X.w) X σ (E σ))
    (ht : eval (.Call (.Attribute o m apos) [] [] pos) X.env = (do
      let ov ← eval o X.env
      standAt apos.atName
      let (f, first) ← holding [ov] (getMethod ov m pl)
      callWith pos f first (backTo pos (starEach [] X.env)) (backToKw pos (keywordEach [] X.env)))) :
    PE X (.Call (.Attribute o m apos) [] [] pos) (tMethG C m sp E ta tNil) := by
  refine ⟨fun pins s σ H Q I h => ?_⟩
  refine PySem.W.methodCall_KW (pl := pl) (thn (he.run pins s σ H _ I h) fun u s1 ⟨x, H1, I1, rx, a, dx, fs, ex, ea, l, q⟩ => ?_) ht
  subst ex
  obtain rfl : u = Value.ref a := rx
  refine getmeth_ok I1 ea c hm l ?_
  exact PySem.W.callWith_K0 (first := [.ref a]) I1.kIn hm.kp (run_fnG (us := [.ref a]) (vs := [.ref a]) F hr hgd hb (hx σ) I1 (.cons rfl .nil) q)
theorem guards_make {A : Around} (h : A.guards = some []) (C : Addr) (us : List Value) : (A.under (.builtin "type.__call__" ⟨.ref C :: us, []⟩)).guards = some [] := by
  show pushGuards (Code.builtin "type.__call__" ⟨.ref C :: us, []⟩).guards A.guards = some []
  rw [h]
  rfl
/-- C(..) -/
def tMakeG (C : Addr) (sp : Sp) (E : L2.St → XK) (t : TA) : TE := fun σ H Q => t σ H fun vs H1 => ∀ x dx, H1 x = none → H1 dx = none → dx ≠ x →
  sp (.ref x :: vs) (upd (upd H1 dx (.own x)) x (.ins C dx [])) (fun v H2 => v = .non ∧ Q (.ref x) H2) (E σ)
theorem run_makeG {pins : List (Addr × Obj)} {σ : L2.St} {H : Hp} {s : Shared} {Q : VK} {us : List Value} {vs : List V} {E : XK} (M : Mk X.K C f) (F : FnG X.prog X.w X.K X.mg X.base k f fd ps sp) (hr : Room (k + 1) X.A) (hgd : X.A.guards = some []) (hb : Binds X.K fd ps [])
    (hx : PassesAt (L2.CX X.prog X.w) X σ E) (I : Inv X pins σ H s) (r : Vals vs us)
    (h : ∀ x dx, H x = none → H dx = none → dx ≠ x → sp (.ref x :: vs) (upd (upd H dx (.own x)) x (.ins C dx [])) (fun v H2 => v = .non ∧ Q (.ref x) H2) E) :
    wpAny (model X.prog X.w) X.A (call (.ref C) us) (EP X pins σ Q) X.xe s := by
  have hq := h (s.heap.objs.size + 1) s.heap.objs.size (I.hok.fresh (Nat.le_succ _)) (I.hok.fresh (Nat.le_refl _)) (Nat.ne_of_lt (Nat.lt_succ_self _))
  have I2 := Inv.made (C := C) I
  have r2 : Vals (V.ref (s.heap.objs.size + 1) :: vs) (Value.ref (s.heap.objs.size + 1) :: us) := .cons rfl r
  have hl : (Value.ref (s.heap.objs.size + 1) :: us).length = ps.length := by
    have e := r2.length
    rw [F.len _ _ _ _ hq] at e
    exact e.symm
  have hb2 := hb _ (Value.ref (s.heap.objs.size + 1) :: us) I2.kIn (by rw [List.append_nil]; exact hl)
  rw [List.append_nil] at hb2
  refine wpAny_call (make_map (f := f) I.kIn M.makes M.init (beq_iff_eq.mp M.fn) (codeAny_mono (F.run _ X.stack _ _ ⟨Value.ref (s.heap.objs.size + 1) :: us, []⟩ (Value.ref (s.heap.objs.size + 1) :: us) _ _ E (hr.make C us [])
    (guards_make hgd C us) (I2.env0.make C us []) hb2 r2 hq) fun r s' hq' => ?_))
  cases r with
  | error e => exact hx pins _ _ e s' I2 hq'
  | ok fl =>
    cases fl with
    | ret u =>
      obtain ⟨v, H', I3, rv, ev, q3⟩ := I2.after hq'
      subst ev
      exact ⟨rv, ⟨V.ref (s.heap.objs.size + 1), H', I3, rfl, q3⟩⟩
    | next => exact False.elim hq'
    | brk => exact False.elim hq'
    | cont => exact False.elim hq'
theorem pe_makeG {E : L2.St → XK} (M : Mk X.K C f) (F : FnG X.prog X.w X.K X.mg X.base k f fd ps sp) (hr : Room (k + 1) X.A) (hgd : X.A.guards = some []) (hg : Gl X x) (hm : X.mg x = some (.ref C)) (hb : Binds X.K fd ps []) (hx : ∀ σ, PassesAt (L2.CX X.prog X.w) X σ (E σ))
    (ha : PA X (e :: es) t) (hdb : (x == ("__debug__" : Str)) = false) (he : starEach (e :: es) X.env = (false, eval e X.env) :: starEach es X.env) (hpl : (backTo pos (starEach es X.env)).any (·.1) = false) :
    PE X (.Call (.Name x p) (e :: es) [] pos) (tMakeG C sp E t) := by
  refine ⟨fun pins s σ H Q I h => ?_⟩
  refine wpAny_Call_Name_kw (ld_glob I hg hm ?_ hdb)
  refine PySem.W.callWith_K (h₀ := X.base) I.ok.mod.kin M.kp (thn (ha.run pos pins s σ H _ I h) fun us s1 ⟨vs, H1, I1, r, q⟩ => ⟨I1.kIn, ?_⟩) he hpl
  exact run_makeG M F hr hgd hb (hx σ) I1 r q
end
/-- a def keeps its promise, by its body -/
theorem fn_ofG {P : Program} {w : World} {K : PySem.W.Frag} {mg : Str → Option Value} {base : Heap} {k : Nat} {f : Addr} {name qual : Str} {params : Arguments} {body : List Stmt} {scope : Scope} {dV kV doc pm cdv ct oc : Value} {an od : Option Addr}
    {osl : Array (Option Value)} {N ps : List Str} {sp : Sp} (lk : K.lookup f = some ⟨oc, od, .func (PySem.W.fnOf name qual params body scope dV kV doc pm an cdv ct), osl⟩) (hcd : PySem.W.codeIn K cdv qual = true) (S : FnScope N ps scope)
    (len : ∀ vs H Q E, sp vs H Q E → vs.length = ps.length)
    (hbody : ∀ (A : Around) (outer : List PySem.Env) (s : Shared) (H : Hp) (vs : List V) (Q : VK) (E : XK), Room k (A.deeper (envOfC qual scope s.heap.objs.size f cdv)) → (A.deeper (envOfC qual scope s.heap.objs.size f cdv)).guards = some [] → sp vs H Q E →
      ∃ t, PSs (cxOf (L2.CX P w) P w K mg base N qual scope f cdv A outer s H E) body t ∧ t { nx := fun _ H' => Q .non H', rt := Q } (start N vs) H) :
    FnG P w K mg base (k + 1) f (PySem.W.fnOf name qual params body scope dV kV doc pm an cdv ct) ps sp := by
  refine ⟨len, fun A outer s H args us vs Q E hr hgd e0 hb r hsp => ?_⟩
  have hl := len _ _ _ _ hsp
  have KX : K.In s.heap := e0.mod.kin.keeps fun b o e => (e0.bs b o e).1
  have lim : s.heap.NoLimit := e0.mod.nolimit.keeps fun b o e => (e0.bs b o e).1
  have hkind : ∀ y ∈ ps.zip us, scope.names.lookup y.1 = some .local ∨ (scope.names.lookup y.1 = some .cell ∧ ((cellsFrom (s.heap.objs.size + 1) scope.names []).lookup y.1).isSome = true) := fun ⟨n, v⟩ hy => by
    rcases S.par n (List.of_mem_zip hy).1 with q | q
    · exact .inl q
    · exact .inr ⟨q, PySem.W.cellsFrom_some _ _ _ (.inl q)⟩
  refine codeAny_call_function hr.depth (KX _ _ lk) rfl S.co S.gen rfl (PySem.W.codeRec_of KX hcd) (hb _ _ _ _ ?_)
  refine wpAny_newFunctionEnv_cells S.kind hkind fun env he s1 x => ?_
  subst he
  refine ⟨lim.keeps x.toInCall.keep, codeAny_func ?_⟩
  obtain ⟨t, ht, hq⟩ := hbody A outer s H vs Q E (hr.deeper _) hgd hsp
  have I : Inv (cxOf (L2.CX P w) P w K mg base N qual scope f cdv A outer s H E) [] (start N vs) H s1 := inv_start S hr.hd e0 hl r x
  refine wpAny_mono (ht.run [] s1 (start N vs) H _ I hq) (fun fl s' hs => ?_) fun e s' hs => hs
  have fin : ∀ {σ' : L2.St} {H' : Hp} {v : V} {u : Value}, Inv (cxOf (L2.CX P w) P w K mg base N qual scope f cdv A outer s H E) [] σ' H' s' → RelV v u → Q v H' → CE outer P w H s Q u s' :=
    fun {σ' H' v u} J rv q => ⟨v, H', J.os, J.bare, J.base, J.hok, rv, q⟩
  cases fl with
  | ret u =>
    obtain ⟨v, σ', H', J, rv, q⟩ := hs
    exact fin J rv q
  | next =>
    obtain ⟨σ', H', J, q⟩ := hs
    exact fin (v := V.non) (u := Value.none) J rfl q
  | brk =>
    obtain ⟨_, _, _, q⟩ := hs
    exact False.elim q
  | cont =>
    obtain ⟨_, _, _, q⟩ := hs
    exact False.elim q
/-- from a promise in this form to the library's, where no repr is under way: law_call's own use -/
theorem law_callG {P : Program} {w : World} {K : PySem.W.Frag} {mg mb : Str → Option Value} {k : Nat} {fa a : Addr} {fd : FuncData} {x : Str} {sp : Sp} {s₁ : Shared} {vs : List Value} {ns : List Int}
    (KX : K.In s₁.heap) (hns : s₁.heap.Ns mainGlobals mg) (hb : s₁.heap.Ns builtinsNs mb) (hbb : ∀ x : Str, x ≠ "__name__" → mb x = bootBuiltins x) (hlim : s₁.heap.NoLimit) (hg : s₁.gens = #[])
    (ha : s₁.heap.get? a = some { cls := .type "list", data := .seq vs.toArray }) (hi : IntsAre vs ns) (hl : ns.length ≤ sizeLine) (hr : Room k callerA)
    (F : ∀ base : Heap, K.In base → base.Ns mainGlobals mg → FnG P w K mg base k fa fd [x] sp) (hbind : ∀ (s : Shared) (u : Value), BindsTo s fd ⟨[u], []⟩ [(x, u)])
    (hsp : ∀ H : Hp, Only H → SqL K H a (ns.map V.int) → sp [.ref a] H (fun v _ => v = .bl true) fun _ _ _ => False) :
    codeAny (model P w) callerA (.call (.ref fa) ⟨[.ref a], []⟩) (fun r s' => r = .ok (.ret (.bool true)) ∧ OldK s₁.heap s'.heap ∧ s'.os = s₁.os ∧ AllBare s'.gens) s₁ := by
  have rv := vals_ints hi
  have lenV := hi.length
  have run : ∀ H : Hp, Only H → SqL K H a (ns.map V.int) → HOk P w H s₁.heap → (∀ b, H b ≠ none → b = a) → (H a ≠ none → K.lookup a = none) →
      codeAny (model P w) callerA (.call (.ref fa) ⟨[.ref a], []⟩) (fun r s' => r = .ok (.ret (.bool true)) ∧ OldK s₁.heap s'.heap ∧ s'.os = s₁.os ∧ AllBare s'.gens) s₁ := by
    intro H hO hS hok hA hK
    have isA : ∀ {b : Addr} {u : HO}, H b = some u → b = a := fun {b u} q => hA b (by rw [q]; simp)
    have noA : ∀ {b : Addr} {o : Obj} {es : Array DictEntry} {ep : Nat}, s₁.heap.get? b = some o → o.data = .dict es ep → H b = none := fun {b o es ep} e d => by
      cases q : H b with
      | none => rfl
      | some u =>
        have e' := isA q
        subst e'
        rw [ha] at e
        cases e
        cases (show Data.seq vs.toArray _ = Data.dict es ep from d)
    have nsK : ∀ {b : Addr} {m : Str → Option Value}, s₁.heap.Ns b m → (hidT s₁.heap H).Ns b m := fun {b m} ⟨o, es, ep, e, d, r⟩ => ⟨o, es, ep, hidT_get e (noA e d), d, r⟩
    have hKb : K.In (hidT s₁.heap H) := fun b o e => hidT_get (KX b o e) (by
      cases q : H b with
      | none => rfl
      | some u =>
        have e' := isA q
        subst e'
        rw [hK (by rw [q]; simp)] at e
        cases e)
    have hM : Mod K mg (hidT s₁.heap H) := ⟨hKb, nsK hns, ⟨mb, nsK hb, hbb⟩, let ⟨mc, h1, h2⟩ := hlim; ⟨mc, nsK h1, h2⟩⟩
    have e0 : Env0 P w K mg (hidT s₁.heap H) callerA [] s₁ H := ⟨rfl, hM, fun b o e => of_hidT e, Nat.le_of_eq (hidT_size _ _), trivial, fun b hb => absurd (show b ∈ ([] : List Addr) from hb) (by simp), hok, .of_eq hg⟩
    refine codeAny_mono ((F _ hKb (nsK hns)).run callerA [] s₁ H ⟨[.ref a], []⟩ [.ref a] [.ref a] _ _ hr rfl e0 (hbind s₁ (.ref a)) (.cons rfl .nil) (hsp H hO hS)) fun r s' h => ?_
    cases r with
    | error e =>
      obtain ⟨_, _, _, _, _, _, _, _, _, _, _, _, z⟩ := h
      exact z.elim
    | ok fl =>
      cases fl with
      | next => exact False.elim h
      | brk => exact False.elim h
      | cont => exact False.elim h
      | ret u =>
        obtain ⟨v, H', os, bare, un, hok', r', q⟩ := h
        have q1 : v = .bl true := q
        subst q1
        obtain rfl : u = Value.bool true := r'
        refine ⟨rfl, OldK.of_keep fun b o e => ?_, os, bare⟩
        rcases hO b with z | ⟨ob, xs, z⟩
        · exact un.keep b o e z (by intro z; exact absurd (show b ∈ ([] : List Addr) from z) (by simp)) (by simp)
        · obtain ⟨e1, _⟩ := hok b _ z
          obtain ⟨e2, _⟩ := hok' b _ (un.frzs b ob _ z)
          rw [e] at e1
          cases e1
          exact e2
  cases hk : K.lookup a with
  | some o =>
    have e := KX a o hk
    rw [ha] at e
    cases e
    exact run (fun _ => none) (fun _ => .inl rfl) (.inr ⟨_, vs.toArray, _, hk, rfl, rfl, rfl, by rw [List.size_toArray, lenV]; exact hl, by simpa using rv⟩) (fun b u z => by cases (show (none : Option HO) = some u from z)) (fun b z => absurd rfl z) fun z => absurd rfl z
  | none =>
    refine run (fun b => if b = a then some (.frz { cls := .type "list", data := .seq vs.toArray } (.lst (ns.map V.int))) else none) (fun b => ?_) (.inl (.inr ⟨{ cls := .type "list", data := .seq vs.toArray }, if_pos rfl⟩)) (fun b u z => ?_) (fun b z => ?_) fun _ => hk
    · by_cases hb : b = a
      · exact .inr ⟨_, _, if_pos hb⟩
      · exact .inl (if_neg hb)
    · by_cases hb : b = a
      · have z' := (if_pos hb).symm.trans z
        cases z'
        subst hb
        exact ⟨ha, by rw [List.length_map]; exact hl, vs, _, rv, ha⟩
      · cases (if_neg hb).symm.trans z
    · by_cases hb : b = a
      · exact hb
      · exact absurd (if_neg hb) z
end G

namespace G
open PySem PySem.Spec PyProof.Rows L2
open Classical
noncomputable section
section
variable {K : PySem.W.Frag} {cA : Nat → Addr} {c : Cf} {H : Hp} {s : Sto}
theorem repVs_get {xs : List D} {vs : List V} (h : RepVs K c xs vs) : ∀ {i : Nat} {d : D}, xs[i]? = some d → ∃ v, vs[i]? = some v ∧ RepV K c d v := by
  induction h with
  | nil => intro i d e; simp at e
  | cons a t ih =>
    intro i d e
    cases i with
    | zero => simp at e; subst e; exact ⟨_, rfl, a⟩
    | succ i => simpa using ih (by simpa using e)
theorem atI_rep {xs : List D} {vs : List V} {i : Int} {d : D} (h : RepVs K c xs vs) (e : atI xs i = some d) : ∃ v, atI vs i = some v ∧ RepV K c d v := by
  unfold atI at e ⊢
  rw [← Paired.length h]
  cases q : ixN xs.length i with
  | none => rw [q] at e; cases e
  | some j =>
    rw [q] at e
    exact repVs_get h e
theorem repVs_drop {xs : List D} {vs : List V} (h : RepVs K c xs vs) : ∀ n : Nat, RepVs K c (xs.drop n) (vs.drop n) := by
  induction h with
  | nil => intro n; cases n <;> exact .nil
  | cons a t ih =>
    intro n
    cases n with
    | zero => exact .cons a t
    | succ n => exact ih n
theorem repVs_take {xs : List D} {vs : List V} (h : RepVs K c xs vs) : ∀ n : Nat, RepVs K c (xs.take n) (vs.take n) := by
  induction h with
  | nil => intro n; cases n <;> exact .nil
  | cons a t ih =>
    intro n
    cases n with
    | zero => exact .nil
    | succ n => exact .cons a (ih n)
theorem repVs_set {xs : List D} {vs : List V} {d : D} {v : V} (h : RepVs K c xs vs) (r : RepV K c d v) : ∀ n : Nat, RepVs K c (xs.set n d) (vs.set n v) := by
  induction h with
  | nil => intro n; cases n <;> exact .nil
  | cons a t ih =>
    intro n
    cases n with
    | zero => exact .cons r t
    | succ n => exact .cons a (ih n)
theorem repVs_rev {xs : List D} {vs : List V} (h : RepVs K c xs vs) : RepVs K c xs.reverse vs.reverse := by
  induction h with
  | nil => exact .nil
  | cons a t ih =>
    rw [List.reverse_cons, List.reverse_cons]
    exact repVs_append ih (.cons a .nil)
theorem cut_rep {xs : List D} {vs : List V} (h : RepVs K c xs vs) (lo hi : Option Int) : RepVs K c (cutD xs lo hi) (cutV vs lo hi) := by
  unfold cutD cutV
  rw [← Paired.length h]
  exact repVs_take (repVs_drop h _) _
theorem ints_v {xs : List D} {vs : List V} {ns : List Int} (h : RepVs K c xs vs) (e : intsO xs = some ns) : vs = ns.map V.int := by
  have q := mapO_some e
  clear e
  induction q generalizing vs with
  | nil => cases h; rfl
  | cons a t ih =>
    cases h with
    | cons h1 h2 =>
      rw [dInt_v a h1, ih h2]
      rfl
theorem bools_v {xs : List D} {vs : List V} {ns : List Bool} (h : RepVs K c xs vs) (e : boolsO xs = some ns) : vs = ns.map V.bl := by
  have q := mapO_some e
  clear e
  induction q generalizing vs with
  | nil => cases h; rfl
  | cons a t ih =>
    cases h with
    | cons h1 h2 =>
      rw [dBool_v a h1, ih h2]
      rfl
theorem leastI_mem : ∀ (l : List Int) (a : Int), leastI a l ∈ a :: l ∧ ∀ y ∈ a :: l, leastI a l ≤ y
  | [], a => ⟨by simp [leastI], by simp [leastI]⟩
  | b :: l, a => by
    obtain ⟨h1, h2⟩ := leastI_mem l (if b < a then b else a)
    simp only [leastI]
    refine ⟨?_, fun y hy => ?_⟩
    · rcases List.mem_cons.mp h1 with e | e
      · rw [e]
        by_cases q : b < a <;> simp [q]
      · exact List.mem_cons_of_mem _ (List.mem_cons_of_mem _ e)
    · have h3 := h2 _ List.mem_cons_self
      rcases List.mem_cons.mp hy with e | e
      · subst e
        by_cases q : b < y
        · rw [if_pos q] at h3 ⊢; omega
        · rw [if_neg q] at h3 ⊢; exact h3
      · rcases List.mem_cons.mp e with e | e
        · subst e
          by_cases q : y < a
          · rw [if_pos q] at h3 ⊢; exact h3
          · rw [if_neg q] at h3 ⊢; omega
        · exact h2 y (List.mem_cons_of_mem _ e)
theorem mostI_mem : ∀ (l : List Int) (a : Int), mostI a l ∈ a :: l ∧ ∀ y ∈ a :: l, y ≤ mostI a l
  | [], a => ⟨by simp [mostI], by simp [mostI]⟩
  | b :: l, a => by
    obtain ⟨h1, h2⟩ := mostI_mem l (if a < b then b else a)
    simp only [mostI]
    refine ⟨?_, fun y hy => ?_⟩
    · rcases List.mem_cons.mp h1 with e | e
      · rw [e]
        by_cases q : a < b <;> simp [q]
      · exact List.mem_cons_of_mem _ (List.mem_cons_of_mem _ e)
    · have h3 := h2 _ List.mem_cons_self
      rcases List.mem_cons.mp hy with e | e
      · subst e
        by_cases q : y < b
        · rw [if_pos q] at h3 ⊢; omega
        · rw [if_neg q] at h3 ⊢; exact h3
      · rcases List.mem_cons.mp e with e | e
        · subst e
          by_cases q : a < y
          · rw [if_pos q] at h3 ⊢; exact h3
          · rw [if_neg q] at h3 ⊢; omega
        · exact h2 y (List.mem_cons_of_mem _ e)
theorem asSq_v (r : Rep K cA c H s) {d : D} {v : V} {xs : List D} (hd : asSq s d = some xs) (hv : RepV K c d v) : ∃ a vs, v = .ref a ∧ (H a = some (.lst vs) ∨ SqT K H a vs) ∧ RepVs K c xs vs := by
  unfold asSq at hd
  cases e : G.asL s d with
  | some ys =>
    rw [e] at hd
    cases hd
    obtain ⟨a, vs, h1, h2, h3⟩ := r.asL e hv
    exact ⟨a, vs, h1, .inl h2, h3⟩
  | none =>
    rw [e] at hd
    obtain ⟨a, vs, h1, h2, h3⟩ := r.asT hd hv
    exact ⟨a, vs, h1, .inr h2, h3⟩
end
section
variable {X : Cx} {cA : Nat → Addr}
theorem ob_ix : IxR X (rB X.K cA ixop) := by
  refine IxR.imp (IxR.or ix_list ix_tup) ?_
  rintro x y H Q ⟨c, d1, d2, s, W, r, h1, h2, h⟩
  unfold ixop at h
  cases e2 : dInt d2 with
  | none => rw [e2] at h; exact h.elim
  | some i =>
    cases e1 : asSq s d1 with
    | none => rw [e1, e2] at h; exact h.elim
    | some xs =>
      rw [e1, e2] at h
      dsimp only at h
      obtain ⟨a, vs, rfl, ha, hv⟩ := asSq_v r e1 h1
      cases e3 : atI xs i with
      | none => rw [e3] at h; exact h.elim
      | some d =>
        rw [e3] at h
        obtain ⟨v, g1, g2⟩ := atI_rep hv e3
        rcases ha with ha | ha
        · exact .inl ⟨a, vs, i, v, rfl, dInt_v e2 h2, SqL.of ha, g1, h.ok r _ g2⟩
        · exact .inr ⟨a, vs, i, v, rfl, dInt_v e2 h2, ha, g1, h.ok r _ g2⟩
def rSlop (K : PySem.W.Frag) (cA : Nat → Addr) (fl : Bool) : V → Option Int → Option Int → Hp → VK → Prop := fun x lo hi H Q => ∃ c d s W, Rep K cA c H s ∧ RepV K c d x ∧ Post K cA c H (slop fl d lo hi s) (okQ K Q) W
theorem SlR.imp {r r' : V → Option Int → Option Int → Hp → VK → Prop} (h : SlR X r) (k : ∀ x lo hi H Q, r' x lo hi H Q → r x lo hi H Q) : SlR X r' := fun pins s σ H x v vl vu lo hi sl Q I rx hs pl pu q => h pins s σ H x v vl vu lo hi sl Q I rx hs pl pu (k _ _ _ _ _ q)
theorem slop_ok {K : PySem.W.Frag} {fl : Bool} {c : Cf} {d : D} {s : Sto} {W : Xn → Sto → Cf → Hp → Prop} {lo hi : Option Int} {H : Hp} {x : V} {Q : VK} (r : Rep K cA c H s) (h1 : RepV K c d x) (h : Post K cA c H (slop fl d lo hi s) (okQ K Q) W) :
    (∃ a vs, x = .ref a ∧ SqL K H a vs ∧ ∀ p, H p = none → Q (.ref p) (upd H p (.lst (cutV vs lo hi)))) ∨ ∃ z, x = .str z ∧ z.length ≤ sizeLine ∧ Q (.str (cutS z lo hi)) H := by
  unfold slop at h
  split at h
  · rename_i l
    obtain ⟨a, vs, rfl, g1, g2⟩ := h1
    exact .inl ⟨a, vs, rfl, r.sub.seq g1, (mkL_new r (cut_rep (repVs_of g2) lo hi) h).2⟩
  · rename_i z
    split at h
    · rename_i hz
      exact .inr ⟨z, v_str h1, lim_le hz, h.ok r _ (.str _)⟩
    · exact h.elim
  · cases e : asL s d with
    | none => rw [e] at h; exact h.elim
    | some xs =>
      rw [e] at h
      obtain ⟨a, vs, rfl, ha, hv⟩ := r.asL e h1
      exact .inl ⟨a, vs, rfl, SqL.of ha, (mkL_new r (cut_rep hv lo hi) h).2⟩
theorem ob_sl (fl : Bool) : SlR X (rSlop X.K cA fl) := by
  refine SlR.imp (SlR.or sl_list sl_str) ?_
  rintro x lo hi H Q ⟨c, d, s, W, r, h1, h⟩
  exact slop_ok r h1 h
theorem upop_ok {K : PySem.W.Frag} {c : Cf} {d : D} {s : Sto} {W : Xn → Sto → Cf → Hp → Prop} {H : Hp} {x : V} {Q : VK} (r : Rep K cA c H s) (h1 : RepV K c d x) (h : Post K cA c H (upop d s) (okQ K Q) W) :
    ∃ z, x = .str z ∧ z.length ≤ 5592405 ∧ Q (.str (Txt.upper z)) H := by
  unfold upop at h
  split at h
  · rename_i z
    split at h
    · rename_i hz
      exact ⟨z, v_str h1, Nat.le_trans hz (by decide), h.ok r _ (.str _)⟩
    · exact h.elim
  · exact h.elim
theorem revop_ok {K : PySem.W.Frag} {fl : Bool} {c : Cf} {d : D} {s : Sto} {W : Xn → Sto → Cf → Hp → Prop} {H : Hp} {x : V} {Q : VK} (r : Rep K cA c H s) (h1 : RepV K c d x) (h : Post K cA c H (revop fl d s) (okQ K Q) W) :
    ∃ a vs, x = .ref a ∧ SqL K H a vs ∧ ∀ p, H p = none → Q (.ref p) (upd H p (.lst vs.reverse)) := by
  unfold revop at h
  cases e : asL s d with
  | none => rw [e] at h; exact h.elim
  | some xs =>
    rw [e] at h
    obtain ⟨a, vs, rfl, ha, hv⟩ := r.asL e h1
    exact ⟨a, vs, rfl, SqL.of ha, (mkL_new r (repVs_rev hv) h).2⟩
/-! ### isinstance of a built-in class -/
theorem tyx_of {K : PySem.W.Frag} {c : Cf} {d : D} {s : Sto} {H : Hp} {x : V} {t : Ty} {b : Bool} (r : Rep K cA c H s) (h1 : RepV K c d x) (ht : ∀ k, t ≠ .own k) (h : isiB s d t = some b) :
    ∃ u : String, TyX K H x (.type u) ∧ kitB u (tyName t) = some b := by
  have lstT : ∀ a vs, H a = some (.lst vs) → TyX K H (.ref a) (.type "list") := fun a vs e => .base (.lst e)
  have tupT : ∀ a vs, SqT K H a vs → TyX K H (.ref a) (.type "tuple") := fun a vs e => by
    rcases e with (e | ⟨o, e⟩) | ⟨o, its, n, e, q, _⟩
    · exact .base (.tup e)
    · exact .fTuple e
    · exact .kTuple e q
  unfold isiB at h
  split at h
  · cases h
    cases h1
    refine ⟨"NoneType", .base .non, ?_⟩
    cases t with
    | own k => exact (ht k rfl).elim
    | _ => decide +kernel
  · cases d with
    | p q =>
      cases h1 with
      | non => cases h
      | bl b =>
        refine ⟨"bool", .base (.bl _), ?_⟩
        cases t with
        | own k => exact (ht k rfl).elim
        | _ => cases h <;> decide +kernel
      | int b =>
        refine ⟨"int", .base (.int _), ?_⟩
        cases t with
        | own k => exact (ht k rfl).elim
        | _ => cases h <;> decide +kernel
      | str b =>
        refine ⟨"str", .base (.str _), ?_⟩
        cases t with
        | own k => exact (ht k rfl).elim
        | _ => cases h <;> decide +kernel
      | lst g1 g2 =>
        refine ⟨"list", lstT _ _ (r.sub _ _ g1), ?_⟩
        cases t with
        | own k => exact (ht k rfl).elim
        | _ => cases h <;> decide +kernel
      | tup g1 g2 =>
        refine ⟨"tuple", tupT _ _ (seqT_mono r.sub g1), ?_⟩
        cases t with
        | own k => exact (ht k rfl).elim
        | _ => cases h <;> decide +kernel
    | o n =>
      cases e : cel s n with
      | none =>
        simp only [tyOf, e] at h
        cases h
      | some z =>
        obtain ⟨a, u, rfl, e2, e3, e4, e5, e6⟩ := r.at e h1
        cases z with
        | lst xs =>
          obtain ⟨vs, rfl, _⟩ := e6
          refine ⟨"list", lstT _ _ e4, ?_⟩
          simp only [tyOf, e] at h
          cases t with
          | own k => exact (ht k rfl).elim
          | _ => cases h <;> decide +kernel
        | tup xs =>
          obtain ⟨vs, rfl, _⟩ := e6
          refine ⟨"tuple", tupT _ _ (SqT.of e4), ?_⟩
          simp only [tyOf, e] at h
          cases t with
          | own k => exact (ht k rfl).elim
          | _ => cases h <;> decide +kernel
        | dct xs =>
          obtain ⟨vs, rfl, _⟩ := e6
          refine ⟨"dict", .base (.dK e4), ?_⟩
          simp only [tyOf, e] at h
          cases t with
          | own k => exact (ht k rfl).elim
          | _ => cases h <;> decide +kernel
        | ins k fs => simp only [tyOf, e] at h; cases h
        | exn k fs => simp only [tyOf, e] at h; cases h
    | s l => simp only [tyOf] at h; cases h
end
end
end G

namespace G
open PySem PySem.Spec PyProof.Rows L2
open Classical
noncomputable section
section
variable {X : Cx} {cA : Nat → Addr}
/-! ### calls of built-ins with one argument -/
/-- the built-in function (a class: false) -/
def biF : Bi → Value
  | .len => .builtin "len"
  | .list => .type "list"
  | .tuple => .type "tuple"
  | .abs => .builtin "abs"
  | .min => .builtin "min"
  | .max => .builtin "max"
  | .int => .type "int"
  | .repr => .builtin "repr"
  | .all => .builtin "all"
  | .any => .builtin "any"
  | .sum => .builtin "sum"
  | .sorted => .builtin "sorted"
  | .dict => .type "dict"
  | .str => .type "str"
theorem ob_repr (hg : X.A.guards = some []) (hu : X.A.units + 65 < cLine) (fl : Bool) : CallR X (biF .repr) (rU1 X.K cA (biop .repr fl)) := by
  rintro pins s σ H xs us Q I rv ⟨x, c, d, st, W, rfl, r, h1, h⟩
  unfold biop at h
  cases e : res 8 st d with
  | none => rw [e] at h; exact h.elim
  | some q =>
    rw [e] at h
    dsimp only at h
    obtain ⟨⟨k2, k3, k4, k5⟩, h⟩ := h.if_
    obtain ⟨u, rfl, ru⟩ := vals1 rv
    have hq := h.ok r _ (Dq.str _)
    have dp := r.res 8 e h1
    cases k1 : PyProof.Rows.isDisplay q with
    | true =>
      obtain ⟨as, rd⟩ := Dp.reads I q x u dp ru
      obtain ⟨a, rfl⟩ := isRef_of_reads rd k1
      exact repr_of_reads' rd k2 (PyData.noDict_hsm k3) hg (by omega) (fun _ _ z => z) (fun h' t tk hk => ⟨.str q.shown, H, I.kept hk, ⟨t, rfl⟩, hq⟩) k5
    | false =>
      cases q with
      | none =>
        cases dp
        cases ru
        exact PySem.P.repr_of_none ⟨.str _, H, I.tok _, ⟨_, rfl⟩, hq⟩
      | bool b =>
        cases dp
        cases ru
        exact PySem.P.repr_of_bool ⟨.str _, H, I.tok _, ⟨_, rfl⟩, by cases b <;> exact hq⟩
      | int i =>
        cases dp
        obtain ⟨t, rfl⟩ := ru
        exact PySem.P.repr_of_int (of_decide_eq_true k2) ⟨.str _, H, I.tok _, ⟨_, rfl⟩, hq⟩
      | str z =>
        cases dp
        obtain ⟨t, rfl⟩ := ru
        exact PySem.P.repr_of_str ⟨.str _, H, I.tok _, ⟨_, rfl⟩, hq⟩ k5
      | list l => cases k1
      | tuple l => cases k1
      | dict l => cases k3
theorem ob_str (hg : X.A.guards = some []) (hu : X.A.units + 65 < cLine) (fl : Bool) : CallR X (biF .str) (rU1 X.K cA (biop .str fl)) := by
  rintro pins s σ H xs us Q I rv ⟨x, c, d, st, W, rfl, r, h1, h⟩
  unfold biop at h
  cases e : res 8 st d with
  | none => rw [e] at h; exact h.elim
  | some q =>
    rw [e] at h
    obtain ⟨u, rfl, ru⟩ := vals1 rv
    have dp := r.res 8 e h1
    cases q with
    | str z =>
      have hq := h.ok r _ (Dq.str _)
      cases dp
      obtain ⟨t, rfl⟩ := ru
      exact PySem.P.str_of_str ⟨.str _, H, I, ⟨_, rfl⟩, hq⟩
    | none =>
      dsimp only at h
      obtain ⟨⟨k2, k3, k4, k5⟩, h⟩ := h.if_
      have hq := h.ok r _ (Dq.str _)
      cases dp
      cases ru
      exact PySem.P.str_of_none ⟨.str _, H, I.tok _, ⟨_, rfl⟩, hq⟩
    | bool b =>
      dsimp only at h
      obtain ⟨⟨k2, k3, k4, k5⟩, h⟩ := h.if_
      have hq := h.ok r _ (Dq.str _)
      cases dp
      cases ru
      exact PySem.P.str_of_bool ⟨.str _, H, I.tok _, ⟨_, rfl⟩, by cases b <;> exact hq⟩
    | int i =>
      dsimp only at h
      obtain ⟨⟨k2, k3, k4, k5⟩, h⟩ := h.if_
      have hq := h.ok r _ (Dq.str _)
      cases dp
      obtain ⟨t, rfl⟩ := ru
      exact PySem.P.str_of_int (of_decide_eq_true k2) ⟨.str _, H, I.tok _, ⟨_, rfl⟩, hq⟩
    | list l =>
      dsimp only at h
      obtain ⟨⟨k2, k3, k4, k5⟩, h⟩ := h.if_
      have hq := h.ok r _ (Dq.str _)
      obtain ⟨as, rd⟩ := Dp.reads I (.list l) x u dp ru
      obtain ⟨a, rfl⟩ := isRef_of_reads rd rfl
      exact PySem.str_of_reads rd k2 (PyData.noDict_hsm k3) hg (by omega) (fun _ _ z => z) (fun h' t tk hk => ⟨.str _, H, I.kept hk, ⟨t, rfl⟩, hq⟩) k5
    | tuple l =>
      dsimp only at h
      obtain ⟨⟨k2, k3, k4, k5⟩, h⟩ := h.if_
      have hq := h.ok r _ (Dq.str _)
      obtain ⟨as, rd⟩ := Dp.reads I (.tuple l) x u dp ru
      obtain ⟨a, rfl⟩ := isRef_of_reads rd rfl
      exact PySem.str_of_reads rd k2 (PyData.noDict_hsm k3) hg (by omega) (fun _ _ z => z) (fun h' t tk hk => ⟨.str _, H, I.kept hk, ⟨t, rfl⟩, hq⟩) k5
    | dict l =>
      dsimp only at h
      obtain ⟨⟨k2, k3, k4, k5⟩, h⟩ := h.if_
      cases k3
theorem ob_len (hc : X.calm = true) (fl : Bool) : CallR X (biF .len) (rU1 X.K cA (biop .len fl)) := by
  refine CallR.imp (CallR.or call_len_seq call_len_str) ?_
  rintro _ H Q ⟨x, c, d, s, W, rfl, r, h1, h⟩
  unfold biop at h
  cases e : asSq s d with
  | some xs =>
    rw [e] at h
    obtain ⟨a, vs, rfl, ha, hv⟩ := asSq_v r e h1
    refine .inl ⟨a, vs, rfl, ?_, ?_⟩
    · rcases ha with ha | ha
      · exact .inl (SqL.of ha)
      · exact .inr ha
    · rw [← Paired.length hv]
      exact h.ok r _ ok_int
  | none =>
    rw [e] at h
    dsimp only at h
    cases e2 : dStr d with
    | none => rw [e2] at h; exact h.elim
    | some z =>
      rw [e2] at h
      obtain ⟨l, h⟩ := h.if_
      exact .inr ⟨z, by rw [dStr_v e2 h1], lim_le l, h.ok r _ ok_int⟩
theorem ob_list (hc : X.calm = true) (fl : Bool) : CallR X (biF .list) (rU1 X.K cA (biop .list fl)) := by
  refine CallR.imp call_list_of ?_
  rintro _ H Q ⟨x, c, d, s, W, rfl, r, h1, h⟩
  unfold biop at h
  cases e : asSq s d with
  | none => rw [e] at h; exact h.elim
  | some xs =>
    rw [e] at h
    obtain ⟨a, vs, rfl, ha, hv⟩ := asSq_v r e h1
    refine ⟨a, vs, rfl, ?_, (mkL_new r hv h).2⟩
    rcases ha with ha | ha
    · exact .inl (SqL.of ha)
    · exact .inr ha
theorem ob_tuple (hc : X.calm = true) (fl : Bool) : CallR X (biF .tuple) (rU1 X.K cA (biop .tuple fl)) := by
  refine CallR.imp call_tuple_of ?_
  rintro _ H Q ⟨x, c, d, s, W, rfl, r, h1, h⟩
  unfold biop at h
  dsimp only at h
  cases e : asL s d with
  | some xs =>
    rw [e] at h
    obtain ⟨a, vs, rfl, ha, hv⟩ := r.asL e h1
    exact ⟨a, vs, rfl, .inl ⟨SqL.of ha, (mkT_new r hv h).2⟩⟩
  | none =>
    rw [e] at h
    dsimp only at h
    cases e2 : asT s d with
    | none => rw [e2] at h; exact h.elim
    | some xs =>
      rw [e2] at h
      obtain ⟨a, vs, rfl, ha, hv⟩ := r.asT e2 h1
      exact ⟨a, vs, rfl, .inr ⟨ha, h.ok r _ h1⟩⟩
theorem ob_abs (hc : X.calm = true) (fl : Bool) : CallR X (biF .abs) (rU1 X.K cA (biop .abs fl)) := by
  refine CallR.imp call_abs ?_
  rintro _ H Q ⟨x, c, d, s, W, rfl, r, h1, h⟩
  unfold biop at h
  cases e : dInt d with
  | none => rw [e] at h; exact h.elim
  | some i =>
    rw [e] at h
    exact ⟨i, by rw [dInt_v e h1], h.ok r _ ok_int⟩
theorem ob_min (hc : X.calm = true) (fl : Bool) : CallR X (biF .min) (rU1 X.K cA (biop .min fl)) := by
  refine CallR.imp (CallR.or (cr_min hc) (cr_minT hc)) ?_
  rintro _ H Q ⟨x, c, d, s, W, rfl, r, h1, h⟩
  unfold biop at h
  dsimp only at h
  split at h
  · rename_i i l e
    cases e1 : asSq s d with
    | none => rw [e1] at e; cases e
    | some xs =>
      rw [e1] at e
      obtain ⟨a, vs, rfl, ha, hv⟩ := asSq_v r e1 h1
      have ev := ints_v hv e
      subst ev
      obtain ⟨g1, g2⟩ := leastI_mem l i
      have fin : ∀ m, m ∈ i :: l → (∀ y, y ∈ i :: l → m ≤ y) → Q (.int m) H := fun m q1 q2 => by
        have : m = leastI i l := by
          have := g2 m q1
          have := q2 _ g1
          omega
        subst this
        exact h.ok r _ ok_int
      rcases ha with ha | ha
      · exact .inl ⟨a, i :: l, rfl, SqL.of ha, by simp, fin⟩
      · exact .inr ⟨a, i :: l, rfl, ha, by simp, fin⟩
  · exact h.elim
theorem ob_max (hc : X.calm = true) (fl : Bool) : CallR X (biF .max) (rU1 X.K cA (biop .max fl)) := by
  refine CallR.imp (CallR.or (cr_max hc) (cr_maxT hc)) ?_
  rintro _ H Q ⟨x, c, d, s, W, rfl, r, h1, h⟩
  unfold biop at h
  dsimp only at h
  split at h
  · rename_i i l e
    cases e1 : asSq s d with
    | none => rw [e1] at e; cases e
    | some xs =>
      rw [e1] at e
      obtain ⟨a, vs, rfl, ha, hv⟩ := asSq_v r e1 h1
      have ev := ints_v hv e
      subst ev
      obtain ⟨g1, g2⟩ := mostI_mem l i
      have fin : ∀ m, m ∈ i :: l → (∀ y, y ∈ i :: l → y ≤ m) → Q (.int m) H := fun m q1 q2 => by
        have : m = mostI i l := by
          have := g2 m q1
          have := q2 _ g1
          omega
        subst this
        exact h.ok r _ ok_int
      rcases ha with ha | ha
      · exact .inl ⟨a, i :: l, rfl, SqL.of ha, by simp, fin⟩
      · exact .inr ⟨a, i :: l, rfl, ha, by simp, fin⟩
  · exact h.elim
theorem ob_sum (hc : X.calm = true) (fl : Bool) : CallR X (biF .sum) (rU1 X.K cA (biop .sum fl)) := by
  refine CallR.imp (cr_sum hc) ?_
  rintro _ H Q ⟨x, c, d, s, W, rfl, r, h1, h⟩
  unfold biop at h
  dsimp only at h
  split at h
  · rename_i l e
    cases e1 : asL s d with
    | none => rw [e1] at e; cases e
    | some xs =>
      rw [e1] at e
      obtain ⟨a, vs, rfl, ha, hv⟩ := r.asL e1 h1
      have ev := ints_v hv e
      subst ev
      exact ⟨a, l, rfl, SqL.of ha, h.ok r _ ok_int⟩
  · exact h.elim
theorem ob_int (hc : X.calm = true) (fl : Bool) : CallR X (biF .int) (rU1 X.K cA (biop .int fl)) := by
  refine CallR.imp call_int1 ?_
  rintro _ H Q ⟨x, c, d, s, W, rfl, r, h1, h⟩
  unfold biop at h
  dsimp only at h
  cases e : dInt d with
  | some i =>
    rw [e] at h
    exact .inl ⟨i, by rw [dInt_v e h1], h.ok r _ ok_int⟩
  | none =>
    rw [e] at h
    cases e2 : dBool d with
    | none => rw [e2] at h; exact h.elim
    | some b =>
      rw [e2] at h
      exact .inr ⟨b, by rw [dBool_v e2 h1], h.ok r _ ok_int⟩
theorem ob_all (hc : X.calm = true) (fl : Bool) : CallR X (biF .all) (rU1 X.K cA (biop .all fl)) := by
  refine CallR.imp (cr_all hc) ?_
  rintro _ H Q ⟨x, c, d, s, W, rfl, r, h1, h⟩
  unfold biop at h
  dsimp only at h
  split at h
  · rename_i l e
    cases e1 : asL s d with
    | none => rw [e1] at e; cases e
    | some xs =>
      rw [e1] at e
      obtain ⟨a, vs, rfl, ha, hv⟩ := r.asL e1 h1
      have ev := bools_v hv e
      subst ev
      exact ⟨a, l, rfl, SqL.of ha, h.ok r _ ok_bl⟩
  · exact h.elim
theorem ob_any (hc : X.calm = true) (fl : Bool) : CallR X (biF .any) (rU1 X.K cA (biop .any fl)) := by
  refine CallR.imp (cr_any hc) ?_
  rintro _ H Q ⟨x, c, d, s, W, rfl, r, h1, h⟩
  unfold biop at h
  dsimp only at h
  split at h
  · rename_i l e
    cases e1 : asL s d with
    | none => rw [e1] at e; cases e
    | some xs =>
      rw [e1] at e
      obtain ⟨a, vs, rfl, ha, hv⟩ := r.asL e1 h1
      have ev := bools_v hv e
      subst ev
      exact ⟨a, l, rfl, SqL.of ha, h.ok r _ ok_bl⟩
  · exact h.elim
/-! ### append, insert, a[i] = x -/
theorem cell_wr {K : PySem.W.Frag} {c : Cf} {H : Hp} {s : Sto} {n : Nat} {xs : List D} {x : V} (r : Rep K cA c H s) (e : cel s n = some (.lst xs)) (h1 : RepV K c (.o n) x) :
    ∃ a vs, x = .ref a ∧ H a = some (.lst vs) ∧ RepVs K c xs vs ∧ ∀ (ys : List D) (ws : List V), RepVs K c ys ws → Rep K cA c (upd H a (.lst ws)) (s.set n (some (.lst ys))) ∧ Ext c H c (upd H a (.lst ws)) := by
  obtain ⟨a, u, rfl, e2, e3, e4, e5, vs, rfl, e7⟩ := r.at e h1
  exact ⟨a, vs, rfl, e4, e7, fun ys ws q => ⟨r.wr e3 e2 ⟨ws, rfl, q⟩, Ext.wr r e2⟩⟩
def rApp (K : PySem.W.Frag) (cA : Nat → Addr) : V → List V → Hp → VK → Prop := fun x vs H Q => ∃ y c d e s W, vs = [y] ∧ Rep K cA c H s ∧ RepV K c d x ∧ RepV K c e y ∧ Post K cA c H (appop d e s) (okQ K Q) W
theorem ob_app : MtR X "list.append" (rApp X.K cA) := by
  refine MtR.imp (r := rAppend) mt_append ?_
  rintro x _ H Q ⟨y, c, d, e, s, W, rfl, r, h1, h2, h⟩
  unfold appop at h
  split at h
  · rename_i n
    split at h
    · rename_i xs e1
      obtain ⟨l, h⟩ := h.if_
      obtain ⟨a, vs, rfl, g1, g2, g3⟩ := cell_wr r e1 h1
      obtain ⟨g4, g5⟩ := g3 (xs ++ [e]) (vs ++ [y]) (repVs_append g2 (.cons h2 .nil))
      exact ⟨a, vs, y, rfl, rfl, g1, by rw [← Paired.length g2]; exact lim_lt l, h _ _ g5 g4 _ ok_non⟩
    · exact h.elim
  · exact h.elim
def rIns (K : PySem.W.Frag) (cA : Nat → Addr) : V → List V → Hp → VK → Prop := fun x vs H Q => ∃ i y c d f e s W, vs = [i, y] ∧ Rep K cA c H s ∧ RepV K c d x ∧ RepV K c f i ∧ RepV K c e y ∧ Post K cA c H (insop d f e s) (okQ K Q) W
theorem ob_ins : MtR X "list.insert" (rIns X.K cA) := by
  refine MtR.imp mt_insert ?_
  rintro x _ H Q ⟨i, y, c, d, f, e, s, W, rfl, r, h1, h3, h2, h⟩
  unfold insop at h
  split at h
  · rename_i n j ej
    split at h
    · rename_i xs e1
      obtain ⟨⟨l, l0, l1⟩, h⟩ := h.if_
      obtain ⟨a, vs, rfl, g1, g2, g3⟩ := cell_wr r e1 h1
      obtain ⟨g4, g5⟩ := g3 (xs.take j.toNat ++ [e] ++ xs.drop j.toNat) (vs.take j.toNat ++ [y] ++ vs.drop j.toNat) (repVs_append (repVs_append (repVs_take g2 _) (.cons h2 .nil)) (repVs_drop g2 _))
      refine ⟨a, vs, j, y, rfl, by rw [dInt_v ej h3], g1, by rw [← Paired.length g2]; exact lim_lt l, l0, ?_, h _ _ g5 g4 _ ok_non⟩
      have : (LIM : Int) = 1000000 := rfl
      omega
    · exact h.elim
  · exact h.elim
def rSetG (K : PySem.W.Frag) (cA : Nat → Addr) : TSet := fun o i v H Q => ∃ c d f e s W, Rep K cA c H s ∧ RepV K c d o ∧ RepV K c f i ∧ RepV K c e v ∧ Post K cA c H (setop d f e s) (fun _ s' c' H' => Q H') W
theorem PSet.imp {r r' : TSet} (h : PSet X r) (k : ∀ o i v H Q, r' o i v H Q → r o i v H Q) : PSet X r' := fun pins s σ H o i v ov iv u Q I ro ri rv q => h pins s σ H o i v ov iv u Q I ro ri rv (k _ _ _ _ _ q)
theorem ob_set : PSet X (rSetG X.K cA) := by
  refine PSet.imp set_list ?_
  rintro o i v H Q ⟨c, d, f, e, s, W, r, h1, h2, h3, h⟩
  unfold setop at h
  split at h
  · rename_i n j ej
    split at h
    · rename_i xs e1
      obtain ⟨a, vs, rfl, g1, g2, g3⟩ := cell_wr r e1 h1
      cases e2 : ixN xs.length j with
      | none => rw [e2] at h; exact h.elim
      | some k =>
        rw [e2] at h
        obtain ⟨g4, g5⟩ := g3 (xs.set k e) (vs.set k v) (repVs_set g2 h3 k)
        exact ⟨a, vs, j, k, rfl, dInt_v ej h2, g1, by rw [← Paired.length g2]; exact e2, h _ _ g5 g4⟩
    · exact h.elim
  · exact h.elim
/-! ### fields -/
theorem lookup_repK {K : PySem.W.Frag} {c : Cf} : ∀ {fs : List (Str × D)} {ws : List (Str × V)}, RepK K c fs ws → ∀ (f : Str), (∀ d, fs.lookup f = some d → ∃ v, ws.lookup f = some v ∧ RepV K c d v) ∧ (fs.lookup f = none → ws.lookup f = none)
  | _, _, .nil, f => ⟨fun d e => (by cases e), fun _ => rfl⟩
  | (g, x) :: fs, (g', y) :: ws, .cons h t, f => by
    obtain ⟨h1, h2⟩ := h
    have h1 : g = g' := h1
    subst h1
    obtain ⟨i1, i2⟩ := lookup_repK t f
    by_cases q : f = g
    · subst q
      refine ⟨fun d e => ?_, fun e => ?_⟩
      · rw [List.lookup_cons, beq_self_eq_true] at e
        cases e
        exact ⟨y, by rw [List.lookup_cons, beq_self_eq_true], h2⟩
      · rw [List.lookup_cons, beq_self_eq_true] at e
        cases e
    · have qb : (f == g) = false := beq_eq_false_iff_ne.mpr q
      refine ⟨fun d e => ?_, fun e => ?_⟩
      · rw [List.lookup_cons, qb] at e
        obtain ⟨v, g1, g2⟩ := i1 d e
        exact ⟨v, by rw [List.lookup_cons, qb]; exact g1, g2⟩
      · rw [List.lookup_cons, qb] at e
        rw [List.lookup_cons, qb]
        exact i2 e
theorem put_repK {K : PySem.W.Frag} {c : Cf} {f : Str} {d : D} {v : V} (h : RepV K c d v) : ∀ {fs : List (Str × D)} {ws : List (Str × V)}, RepK K c fs ws → RepK K c (putD f d fs) (putF f v ws)
  | _, _, .nil => .cons ⟨rfl, h⟩ .nil
  | (g, x) :: fs, (g', y) :: ws, .cons h1 t => by
    obtain ⟨h1, h2⟩ := h1
    have h1 : g = g' := h1
    subst h1
    unfold putD putF
    by_cases q : g = f
    · rw [if_pos q, if_pos q]
      exact .cons ⟨q.symm, h⟩ t
    · rw [if_neg q, if_neg q]
      exact .cons ⟨rfl, h2⟩ (put_repK h t)
end
end
end G

namespace G
open PySem PySem.Spec PyProof.Rows L2
open Classical
noncomputable section
/-! ### exceptions of own classes, kept behind their except clause -/
/-- what is asked of each such class -/
structure ExA (K : PySem.W.Frag) (C : Addr) : Prop where
  ic : (PySem.W.clsIn K C).isSome = true
  xf : XfC K C
  cl : PySem.W.findIn K (.ref C) "__class__" = some (some (.builtin "object.__class__"))
  gt : PySem.W.specialIn K (.builtin "object.__class__") "__get__" = some (some (.builtin "getset_descriptor.__get__"))
  tk : PySem.W.takesIn K (.builtin "object.__class__") = some true
  ob : PySem.W.mroIn K C (.type "object") = some true
  ty : PySem.W.typeIn K (.ref C) = some (.type "type")
  kp : PySem.W.keepIn K (.ref C) = true
  nw : PySem.W.findIn K (.ref C) "wrong" = some none
def exaB (K : PySem.W.Frag) (C : Addr) : Bool := (PySem.W.clsIn K C).isSome && (xfB K C && (decide (PySem.W.findIn K (.ref C) "__class__" = some (some (.builtin "object.__class__"))) && (decide (PySem.W.specialIn K (.builtin "object.__class__") "__get__" = some (some (.builtin "getset_descriptor.__get__"))) &&
  (decide (PySem.W.takesIn K (.builtin "object.__class__") = some true) && (decide (PySem.W.mroIn K C (.type "object") = some true) && (decide (PySem.W.typeIn K (.ref C) = some (.type "type")) && (PySem.W.keepIn K (.ref C) && decide (PySem.W.findIn K (.ref C) "wrong" = some none))))))))
theorem exaB_ok {K : PySem.W.Frag} {C : Addr} (h : exaB K C = true) : ExA K C := by
  unfold exaB at h
  simp only [Bool.and_eq_true, decide_eq_true_eq] at h
  obtain ⟨h1, h2, h3, h4, h5, h6, h7, h8, h9⟩ := h
  exact ⟨h1, xfB_ok h2, h3, h4, h5, h6, h7, h8, h9⟩
/-- a class over ValueError whose object stands as the making of its instances asks -/
def oexB (K : PySem.W.Frag) (C : Addr) : Bool := (match K.lookup C with
  | some ⟨c, _, .cls cd, sl⟩ => decide (c = .type "type") && (match cd.mro with
    | .ref C' :: bm => decide (C' = C) && PySem.HandSPX.refsVE bm
    | _ => false) && (cd.hasDict && !cd.hasDel) && (match sl.toList with
    | [_, _, _, _, some (.builtin n), _] => n == "ValueError.__new__"
    | _ => false)
  | _ => false) && (decide (PySem.W.findIn K (.ref C) "__setattr__" = some (some (.builtin "object.__setattr__"))) && (decide (PySem.W.subIn K (.ref C) (.type "BaseException") = some true) && (decide (PySem.W.typeIn K (.ref C) = some (.type "type")) && PySem.W.keepIn K (.ref C))))
theorem oexB_ok {K : PySem.W.Frag} {C : Addr} (h : oexB K C = true) : OexC K C := by
  unfold oexB at h
  simp only [Bool.and_eq_true, decide_eq_true_eq] at h
  obtain ⟨h1, h2, h3, h4, h5⟩ := h
  refine ⟨?_, h2, h3, h4, h5⟩
  cases q : K.lookup C with
  | none => rw [q] at h1; cases h1
  | some o =>
    obtain ⟨c, dd, dt, sl⟩ := o
    rw [q] at h1
    cases dt with
    | cls cd =>
      obtain ⟨nm, bs, mro, ns, qn, hd, sn, sub, ab, col, del⟩ := cd
      simp only [Bool.and_eq_true, decide_eq_true_eq, Bool.not_eq_true'] at h1
      obtain ⟨⟨⟨rfl, k2⟩, k3, k4⟩, k5⟩ := h1
      subst k3 k4
      obtain ⟨sl⟩ := sl
      match mro, k2, sl, k5 with
      | .ref C' :: bm, k2, [a1, a2, a3, a4, some (.builtin n), a6], k5 =>
        obtain ⟨k21, k22⟩ := Bool.and_eq_true_iff.mp (show (decide (C' = C) && PySem.HandSPX.refsVE bm) = true from k2)
        have ec := of_decide_eq_true k21
        subst ec
        have e : n = "ValueError.__new__" := eq_of_beq k5
        subst e
        exact ⟨nm, qn, ns, bs, bm, sn, sub, ab, col, dd, a1, a2, a3, a4, a6, rfl, k22⟩
    | _ => cases h1
section
variable {X : Cx} {pins : List (Addr × Obj)} {σ : L2.St} {H : Hp} {s : Shared} {K : PySem.W.Frag}
/-- X() of a class without own __init__ -/
theorem pmk_own0 {C : Addr} {bmB : List Value} {B newId initId : String} {x : Str} {p pos : Pos} (F : ExcBaseFacts B newId initId bmB) (q : PySem.W.excIn X.K C bmB newId = true) (gC : X.mg x = some (.ref C)) (kC : PySem.W.keepIn X.K (.ref C) = true) (r : Raises X (.ref C)) (hg : Gl X x) (hdb : (x == ("__debug__" : Str)) = false) :
    PMk X (.Call (.Name x p) [] [] pos) (fun _ H Q => Q (.ref C) none H) := by
  intro pins s σ H Q I h
  refine wpAny_Call_Name_kw (ld_glob I hg gC ?_ hdb)
  refine PySem.W.callWith_K0 I.kIn kC ?_
  show wpAny _ _ (call (.ref C) []) _ _ _
  obtain ⟨bm, N, nm, qn, bs, hdct, sn, sub, ab, col, dd, k0, k1, k2, k3, k5, mN, hC, hN, hni, T⟩ := exc_obj I.kIn q
  refine wpAny_call_exc_subT F T hC hN hni (fun h' e hm => ?_) (by show 0 ≤ sizeLine; omega)
  exact mk_of I hm r h (I.hok.gone hm.new)
theorem exn_ok {P : Program} {w : World} {h : Heap} {a C : Addr} {d : Option Addr} {oe : Obj} {vs : Array Value} (h1 : h.get? a = some oe) (h2 : oe.cls = .ref C) (h3 : oe.dict = d) (h4 : oe.data = .fields vs) : ObjOk P w H h a (exnO a C d) :=
  ⟨⟨oe, vs, h1, h2, h3, h4⟩, ⟨oe, h1⟩, fun _ _ ⟨o, v, e1, e2, e3, e4⟩ k => ⟨o, v, k o e1, e2, e3, e4⟩⟩
/-- a thing outside the ground is tracked -/
theorem Inv.track (I : Inv X pins σ H s) {a : Addr} {u : HO} (n0 : X.s_0.heap.get? a = none) (na : H a = none) (nL : a ≠ X.env.locals) (nC : ∀ x c, X.env.cells.lookup x = some c → c ≠ a) (nP : ∀ p ∈ X.pn ++ pins, p.1 ≠ a) (new : ObjOk X.prog X.w (upd H a u) s.heap a u) : Inv X pins σ (upd H a u) s := by
  have ne0 : ∀ {b : Addr} {o : Obj}, X.s_0.heap.get? b = some o → b ≠ a := fun {b o} q z => by rw [z, n0] at q; cases q
  refine ⟨I.ok, I.os, I.bare, ⟨fun b o e n => I.base.keep b o e n, fun b o e n => I.base.slot b o e n, fun b o e n x => ?_, I.base.there, fun b xs e => ?_, fun b o v e => ?_, fun b ps e => ?_⟩, I.loc, I.cell, ?_, fun x c e => ?_, fun p hp => ?_, fun b o e => ?_, I.len⟩
  · rw [upd_ne (ne0 e)]
    exact I.base.free b o e n x
  · have q := I.base.tups b xs e
    rw [upd_ne (ne_of_none q na)]
    exact q
  · have q := I.base.frzs b o v e
    rw [upd_ne (ne_of_none q na)]
    exact q
  · obtain ⟨more, q⟩ := I.base.tbls b ps e
    exact ⟨more, by rw [upd_ne (ne_of_none q na)]; exact q⟩
  · rw [upd_ne (Ne.symm nL)]
    exact I.free
  · rw [upd_ne (nC x c e)]
    exact I.freeC x c e
  · obtain ⟨p1, p2, p3⟩ := I.pin p hp
    exact ⟨p1, by rw [upd_ne (nP p hp)]; exact p2, p3⟩
  · by_cases z : b = a
    · subst z
      rw [upd_same] at e
      cases e
      exact new
    · rw [upd_ne z] at e
      exact (I.hok b o e).stay (fun _ _ _ q => q) (fun c hc => by rw [upd_ne (ne_of_none hc na)]; exact hc) fun c xs hc => by rw [upd_ne (ne_of_none hc na)]; exact hc
/-- such an exception as an instance -/
theorem exn_inst (I : Inv X pins σ H s) {a C : Addr} {d : Option Addr} (e : H a = some (exnO a C d)) (hd : ∀ b, d = some b → ∃ fs, H b = some (.xd fs)) : ∃ oe od, PySem.W.InstAt s.heap a oe C od ∧ (∀ b, d = some b → ∃ o, od = some o ∧ s.heap.get? b = some o) := by
  obtain ⟨⟨oe, vs, h1, h2, h3, h4⟩, _⟩ := (show ObjOk X.prog X.w H s.heap a (exnO a C d) from I.hok a _ e)
  have nc : PySem.W.notCls oe = true := by unfold PySem.W.notCls; rw [h4] <;> rfl
  cases d with
  | none => exact ⟨oe, none, ⟨h1, h2, nc, by rw [h3]; trivial⟩, fun b z => by cases z⟩
  | some b =>
    obtain ⟨fs, ef⟩ := hd b rfl
    obtain ⟨mA, hns, _⟩ := (show ObjOk X.prog X.w H s.heap b (.xd fs) from I.hok b _ ef)
    obtain ⟨od, ho, _⟩ := lookIn_ns hns
    exact ⟨oe, some od, ⟨h1, h2, nc, by rw [h3]; exact ho⟩, fun b' z => by cases z; exact ⟨od, rfl, ho⟩⟩
def rIsX (K : PySem.W.Frag) : List V → Hp → VK → Prop := fun xs H Q => ∃ (a C : Addr) (d : Option Addr) (c : V) (u : Value) (b : Bool), xs = [.ref a, c] ∧ H a = some (exnO a C d) ∧ (∀ b, d = some b → ∃ fs, H b = some (.xd fs)) ∧ ExA K C ∧ ClsV c u ∧ PySem.W.kitOne K (.ref C) u = some b ∧ Q (.bl b) H
theorem call_isX : CallR X (.builtin "isinstance") (rIsX X.K) := by
  intro pins s σ H xs us Q I r h
  obtain ⟨a, C, d, c, u, b, rfl, e, hd, A, k, ek, q⟩ := h
  obtain ⟨u1, u2, rfl, r1, r2⟩ := vals2 r
  have z := k.eq r2
  subst z
  obtain rfl : u1 = Value.ref a := r1
  obtain ⟨oe, od, J, _⟩ := exn_inst I e hd
  exact PySem.W.kia_one (PySem.W.kitx_exc (od := od) A.ic A.xf.ga A.xf.gg A.xf.exC A.cl A.gt A.tk A.ob) I.kIn J ek (fun z => nomatch z) fun tk => ⟨.bl b, H, I.tok tk, rfl, q⟩
/-- .. its field -/
def tXg (K : PySem.W.Frag) (n : Str) (te : TE) : TE := fun σ H Q => te σ H fun x H1 => ∃ (a C b : Addr) (fs : List (Str × V)) (v : V), x = .ref a ∧ H1 a = some (exnO a C (some b)) ∧ H1 b = some (.xd fs) ∧ XfC K C ∧ PySem.W.findIn K (.ref C) n = some none ∧ fs.lookup n = some v ∧ Q v H1
theorem pe_xg {e : Expr} {te : TE} {pos : Pos} {n : Str} (he : PE X e te) (hb : attributeBase e n X.env (eval e X.env) = eval e X.env) : PE X (.Attribute e n pos) (tXg X.K n te) := by
  refine ⟨fun pins s σ H Q I h => attr_of hb (thn (he.run pins s σ H _ I h) fun u s1 hh => ?_)⟩
  obtain ⟨x, H1, I1, rx, a, C, b, fs, v, rfl, ea, eb, T, hno, l, q⟩ := hh
  obtain rfl : u = Value.ref a := rx
  obtain ⟨oe, od, J, hod⟩ := exn_inst I1 ea fun b' z => by cases z; exact ⟨fs, eb⟩
  obtain ⟨o, rfl, ho⟩ := hod b rfl
  obtain ⟨mA, hns, hr⟩ := (show ObjOk X.prog X.w H1 s1.heap b (.xd fs) from I1.hok b _ eb)
  obtain ⟨o', ho', hl⟩ := lookIn_ns hns
  have eo : o' = o := Option.some.inj (ho'.symm.trans ho)
  subst eo
  obtain ⟨w, hu, ru⟩ := RelO.some_of (v := v) (o := mA n) (by rw [← l]; exact hr n)
  exact HandSPX.exc_get I1.kIn J T.ga T.gg T.exC (PySem.W.findObj_own T.hdC hno rfl (by rw [hl, hu])) (handed_of ru) ⟨v, H1, I1.tok _, ru, q⟩
/-- o.m(..): what the text does -/
theorem eval_meth {o : Expr} {m : Str} {apos pos : Pos} {es : List Expr} {env : PySem.Env} (hb : attributeBase o m env (eval o env) = eval o env) (hl : (apos.endLine == pos.line) = true)
    (hf : methodCallForm (es.length + ([] : List Keyword).length) (backTo pos (starEach es env)) (backToKw pos (keywordEach [] env)) = true) : eval (.Call (.Attribute o m apos) es [] pos) env = (do
      let ov ← eval o env
      standAt apos.atName
      let (f, first) ← holding [ov] (getMethod ov m (do return (← importBound o env).getD true))
      callWith pos f first (backTo pos (starEach es env)) (backToKw pos (keywordEach [] env))) := by
  rw [arm_eval_Call, hb]
  unfold methodCall
  simp only [hf]
  unfold methodCallPos calleeOf
  rw [hl]
  rfl
/-- B.__init__(self, ..), B an own class that has ValueError's -/
theorem pe_binit {B : Addr} {x : Str} {e : Expr} {es : List Expr} {ta : TA} {p1 p2 pos : Pos} {pl : Sem Bool} (hg : Gl X x) (hm : X.mg x = some (.ref B)) (hdb : (x == ("__debug__" : Str)) = false)
    (hs : PySem.W.specialIn X.K (.ref B) "__getattribute__" = some (some (.builtin "type.__getattribute__"))) (hr : PySem.W.readsIn X.K B (.type "type") = true) (hf : PySem.W.findCls X.K (.ref B) (.type "type") "__init__" = some (.val (.builtin "ValueError.__init__")))
    (ha : PA X (e :: es) ta)
    (hc : eval (.Call (.Attribute (.Name x p1) "__init__" p2) (e :: es) [] pos) X.env = (do
      let ov ← eval (.Name x p1) X.env
      standAt p2.atName
      let (f, first) ← holding [ov] (getMethod ov "__init__" pl)
      callWith pos f first (backTo pos (starEach (e :: es) X.env)) (backToKw pos (keywordEach [] X.env))))
    (he : starEach (e :: es) X.env = (false, eval e X.env) :: starEach es X.env) (hpl : (backTo pos (starEach es X.env)).any (·.1) = false) :
    PE X (.Call (.Attribute (.Name x p1) "__init__" p2) (e :: es) [] pos) (tVeI X.K ta) := by
  refine ⟨fun pins s σ H Q I h => PySem.W.methodCall_KW (ld_glob I hg hm ?_ hdb) hc⟩
  refine PySem.W.method_cls I.kIn hs (PySem.W.cls_value I.kIn hr hf (by decide +kernel) ?_)
  show wpAny _ _ (callWith pos (Value.builtin "ValueError.__init__") [] (backTo pos (starEach (e :: es) X.env)) []) _ _ _
  refine PyProof.Rows.callWith_method1 (thn (ha.run pos pins _ σ H _ (I.tok _) h) fun us s1 hh => ?_) he hpl
  obtain ⟨vs, H1, I1, r1, a, C, ws, rfl, hl, T, ea, q⟩ := hh
  cases r1 with
  | @cons _ u0 _ ur ra rw' =>
    obtain rfl : u0 = Value.ref a := ra
    have hlen : ur.length ≤ sizeLine := by
      have := Paired.length rw'
      rw [sizeLine_eq]
      omega
    exact oinit_ok T I1 ea hlen fun s' J => ⟨.non, H1, J, rfl, q⟩
/-! ### try, the exception kept -/
/-- what the clause wishes of what the body raises -/
def wKp (K : PySem.W.Frag) (c : Value) (i : Nat) (ts : TS) (Wout : WX) (D : Ends) : WX := fun cls d σ H => ∃ b, PySem.W.exmOne K cls c = some b ∧
  (b = true → ∀ a, H a = none → ∃ C : Addr, cls = .ref C ∧ ts { nx := fun σ' H' => D.nx (σ'.set i none) H', rt := fun _ _ => False, bk := fun _ _ => False, ct := fun _ _ => False } (σ.set i (some (.ref a))) (upd H a (exnO a C d))) ∧ (b = false → Wout cls d σ H)
theorem Inv.toHot {a : Addr} (I : Inv X pins σ H s) : Inv (X.suite a (X.pn ++ pins)) [] σ H s :=
  ⟨I.ok.suite _ _, I.os, I.bare, I.base, I.loc, I.cell, I.free, I.freeC, fun p hp => I.pin p (by rw [List.append_nil] at hp; exact hp), I.hok, I.len⟩
theorem Inv.ofHot {a : Addr} (I : Inv (X.suite a (X.pn ++ pins)) [] σ H s) (ok : X.Ok) : Inv X pins σ H s :=
  ⟨ok, I.os, I.bare, I.base, I.loc, I.cell, I.free, I.freeC, fun p hp => I.pin p (by rw [List.append_nil]; exact hp), I.hok, I.len⟩
theorem ps_keep {x n : Str} {c : Value} {i : Nat} {body suite : List Stmt} {b₀ : Stmt} {np pos pos' : Pos} {tb : WX → TS} {ts : TS} {Wout : WX} (hs : X.stack = X.env :: X.outer) (hf : X.env.frame = some X.env.locals) (hex : X.ex = []) (hN : X.N.Nodup) (hi : X.N[i]? = some n) (hln : X.env.kindOf n = some .local) (hc : L2.Names X x c) (tk : Takes X Wout)
    (hb : ∀ (W : WX) (pn : List (Addr × Obj)) (xe : Value → Shared → Prop), Takes (X.tr pn xe) W → PassesOwn (model X.prog X.w) X.A X.env xe → PSs (X.tr pn xe) body (tb W))
    (hsu : ∀ (a : Addr) (pn : List (Addr × Obj)), PSs (X.suite a pn) (b₀ :: suite) ts) :
    PS X (.Try body [.ExceptHandler (some (.Name x np)) (some n) (b₀ :: suite) pos'] [] [] pos) (fun D σ H => tb (wKp X.K c i ts Wout D) D σ H) := by
  refine ⟨fun pins s σ H D I h => wpAny_Try_except ?_⟩
  have ok := I.ok
  have run := (hb (wKp X.K c i ts Wout D) (X.pn ++ pins) (fun e s₁ => wpAny (model X.prog X.w) X.A (noteFrame e X.env) (fun _ s₂ => wpAny (model X.prog X.w) X.A (setFlight e none) (fun _ s₃ =>
    wpAny (model X.prog X.w) X.A (handleBy e X.env [.ExceptHandler (some (.Name x np)) (some n) (b₀ :: suite) pos']) (SP X pins D) X.xe s₃) X.xe s₂) X.xe s₁) (fun u s' xx => ?_) PassesOwn.looking).run [] s σ H D (I.toTry _) h
  · refine wpAny_mono run (fun f s1 hsp => ?_) (fun e s1 he => he)
    cases f with
    | next => exact wpAny_execs_nil (let ⟨σ', H', J, q⟩ := hsp; ⟨σ', H', J.ofTry ok, q⟩)
    | brk => exact (let ⟨σ', H', J, q⟩ := hsp; ⟨σ', H', J.ofTry ok, q⟩)
    | cont => exact (let ⟨σ', H', J, q⟩ := hsp; ⟨σ', H', J.ofTry ok, q⟩)
    | ret u => exact (let ⟨v, σ', H', J, r, q⟩ := hsp; ⟨v, σ', H', J.ofTry ok, r, q⟩)
  obtain ⟨a, B, sI, pinsI, σ1, H1, cls, d, rfl, JI, nb, up, sky, na, os, ag, b, eb, hyes, hno⟩ := xx
  have J : Inv X pins σ1 H1 sI := JI.ofTry ok
  have frames : X.A.frames = some (X.env :: X.outer) := by rw [ok.frames, hs]
  have sky' : Sky B (X.env :: X.outer) a (Zc cls d) X.env.locals s'.heap := by rw [← hs]; exact sky
  refine Sky.land (env := X.env) Zc.steady frames hf sky' fun h3 fl3 up3 => ?_
  have J3 : Inv X pins σ1 H1 { s' with heap := h3 } := J.landed nb fl3.1 (up.trans up3) os ag
  obtain ⟨oe3, vs3, he3, hz3, hd3⟩ := fl3.there
  have nfr : a ∉ frs (X.env :: X.outer) := fun hm => by
    obtain ⟨_, o', e', hnf⟩ := fl3.2.2.1.mem hm
    rw [he3] at e'
    cases e'
    exact hnf _ hd3
  have nfs : a ∉ frs X.stack := by rw [hs]; exact nfr
  have nI : sI.heap.get? a = none := by
    cases q : sI.heap.get? a with
    | none => rfl
    | some o =>
      have z := nb a o q nfs
      rw [fl3.2.1] at z
      cases z
  have n0 : X.s_0.heap.get? a = none := by
    cases q : X.s_0.heap.get? a with
    | none => rfl
    | some o =>
      obtain ⟨o', e'⟩ := J.base.there a o q (by rw [hex]; simp)
      rw [nI] at e'
      cases e'
  have nL : a ≠ X.env.locals := fun z => nfr (List.mem_filterMap.mpr ⟨X.env, List.mem_cons_self, by rw [hf, z]⟩)
  have nC : ∀ x c, X.env.cells.lookup x = some c → c ≠ a := fun x c e z => by
    obtain ⟨v, o, w, _⟩ := J.cell x c e
    rw [z, nI] at w
    cases w
  have nP : ∀ p ∈ X.pn ++ pins, p.1 ≠ a := fun p hp z => by
    have w := (J.pin p hp).1
    rw [z, nI] at w
    cases w
  refine wpAny_handleBy_cons (codeAny_handlers_test ?_) (by intro q; cases q)
  have LT : PySem.W.Looks (model X.prog X.w) h3 (typeOf (.ref a)) cls := fun A Q E s k q => wpAny_typeOf_ref (k _ _ he3) (by rw [hz3.1]; exact q)
  have LM := PySem.W.exm_one (M := model X.prog X.w) J3.kIn LT eb
  have nm : ∀ {Q : Value → Shared → Prop} {E : Value → Shared → Prop}, Q c { s' with heap := h3 } → wpAny (model X.prog X.w) (X.A.mark (some (.ref a))) (eval (.Name x np) X.env) Q E { s' with heap := h3 } := fun {Q E} q => by
    have S := Inv.toHot (a := a) J3
    obtain ⟨g1, g2, hm | ⟨hm, hv, hnn⟩⟩ := hc
    · exact ld_glob (X := X.suite a (X.pn ++ pins)) S g1 hm q g2
    · exact ld_blt (X := X.suite a (X.pn ++ pins)) S g1 hm hv q hnn g2
  refine nm (LM.here ?_)
  cases b with
  | false =>
    show wpAny _ X.A (handleBy (.ref a) X.env []) _ _ _
    refine wpAny_handleBy_nil ?_
    obtain ⟨k1, k2, k3, oe, vs, T, oT, ts', he, hz, hd, h1, hr⟩ := id fl3
    unfold PySem.passOn
    refine wpAny_bind (wpAny_field he hd h1 ?_)
    rw [if_neg (show ¬ ((Value.ref T == Value.none) = true) from by simp)]
    have fin : wpAny (model X.prog X.w) X.A (setFlight (.ref a) X.env.frame) (fun _ s4 => wpAny (model X.prog X.w) X.A (throw (.ref a) : Sem Flow) (SP X pins D) X.xe s4) X.xe { s' with heap := h3 } := by
      rw [hf]
      refine HandSPX.setFlight_upZ fl3 fun h4 hh4 up4 => wpAny_throw (tk _ _ ?_)
      exact ⟨a, B, sI, pins, σ1, H1, cls, d, rfl, J, nb, (up.trans up3).trans up4, .inr (.inr (by rw [hs]; exact hh4)), na, os, ag, hno rfl⟩
    first
      | exact wpAny_bind (wpAny_pure (wpAny_bind fin))
      | exact wpAny_bind fin
  | true =>
    refine codeAny_handlers_suite_as (HandSPX.lands_againZ fl3 fun h4 fl4 up4 => ?_)
    have J4 : Inv X pins σ1 H1 { s' with heap := h4 } := J.landed nb fl4.1 ((up.trans up3).trans up4) os ag
    obtain ⟨oe4, vs4, he4, hz4, hd4⟩ := fl4.there
    obtain ⟨C, ec, hq⟩ := hyes rfl a na
    have S4 := Inv.toHot (a := a) (Inv.track J4 n0 na nL nC nP (exn_ok (C := C) (d := d) he4 (by rw [hz4.1, ec]) hz4.2 hd4))
    refine store_ok (X := X.suite a (X.pn ++ pins)) (v := .ref a) S4 hN hi (.inl hln) rfl (fun s5 S5 => ?_) (.inr hln)
    refine wpAny_mono ((hsu a (X.pn ++ pins)).run [] s5 _ _ _ S5 hq) (fun f s6 hsp => ?_) (fun _ _ z => False.elim z)
    cases f with
    | next =>
      obtain ⟨σ6, H6, S6, q6⟩ := hsp
      exact gone_ok (Inv.ofHot S6 ok) hN hi hln fun s7 J7 => ⟨_, _, J7, q6⟩
    | brk => obtain ⟨_, _, _, q⟩ := hsp; exact q.elim
    | cont => obtain ⟨_, _, _, q⟩ := hsp; exact q.elim
    | ret u => obtain ⟨_, _, _, _, _, q⟩ := hsp; exact q.elim
/-! ### def __init__(self, wrong): B.__init__(self, 'm'); self.wrong = wrong -/
def spIni (K : PySem.W.Frag) : Sp := fun vs H Q E => ∃ (a C : Addr) (w : V), vs = [.ref a, w] ∧ OexC K C ∧ PySem.W.findIn K (.ref C) "wrong" = some none ∧ H a = some (exo a C none) ∧ ∀ dx, H dx = none → dx ≠ a → Q .non (upd (upd H dx (exd dx [(("wrong" : Str), w)])) a (exo a C (some dx)))
def iniB (sc : Scope) (B : Str) : List Stmt → Bool
  | [.Expr (.Call (.Attribute (.Name x _) m p2) [.Name y _, .Constant (.str _) _ _] [] p5) _, .Assign [.Attribute (.Name z _) f _] (.Name u _) _] => decide (x = B) && (decide (m = "__init__") && (decide (y = "self") && (decide (z = "self") && (decide (f = "wrong") && (decide (u = "wrong") && (decide (p2.endLine = p5.line) &&
      (decide (sc.names.lookup B = some .globalImplicit) && (!(B == ("__debug__" : Str)) && (decide (sc.names.lookup ("self" : Str) = some .local) && decide (sc.names.lookup ("wrong" : Str) = some .local))))))))))
  | _ => false
structure IniK (K : PySem.W.Frag) (B : Addr) : Prop where
  sp : PySem.W.specialIn K (.ref B) "__getattribute__" = some (some (.builtin "type.__getattribute__"))
  rd : PySem.W.readsIn K B (.type "type") = true
  fc : PySem.W.findCls K (.ref B) (.type "type") "__init__" = some (.val (.builtin "ValueError.__init__"))
theorem ini_ok {P : Program} {w : World} {K : PySem.W.Frag} {mg : Str → Option Value} {base : Heap} {CX : CXT} {nm qual B : Str} {params : Arguments} {body : List Stmt} {scope : Scope} {f b : Addr} {fd : FuncData} (F : FunD K nm qual params body scope [] [] f fd) (S : FnScope ["self", "wrong"] ["self", "wrong"] scope) (h : iniB scope B body = true)
    (hm : mg B = some (.ref b)) (k : IniK K b) : FnOk P w K mg base CX 1 f fd ["self", "wrong"] (spIni K) := by
  refine F.ok S (fun vs H Q E h => ?_) fun cdv A outer s H vs Q E hr hsp => ?_
  · obtain ⟨a, C, w, rfl, _⟩ := h
    rfl
  unfold iniB at h
  split at h
  · rename_i x p1 m p2 y p3 msg j p4 p5 p6 z p7 f p8 u p9 p10
    have h' : (decide (x = B) && (decide (m = "__init__") && (decide (y = "self") && (decide (z = "self") && (decide (f = "wrong") && (decide (u = "wrong") && (decide (p2.endLine = p5.line) &&
      (decide (scope.names.lookup B = some .globalImplicit) && (!(B == ("__debug__" : Str)) && (decide (scope.names.lookup ("self" : Str) = some .local) && decide (scope.names.lookup ("wrong" : Str) = some .local))))))))))) = true := h
    simp only [Bool.and_eq_true, decide_eq_true_eq, Bool.not_eq_true'] at h'
    obtain ⟨rfl, rfl, rfl, rfl, rfl, rfl, h7, h8, h9, h10, h11⟩ := h'
    have vs0 : ∀ (X : Cx) (p : Pos), X.N = [("self" : Str), "wrong"] → X.env.scope = scope → PE X (.Name "self" p) (tVar 0) := fun X p e1 e2 => pe_var (by rw [e1]; rfl) (by rw [e2]; exact .inl h10)
    have vs1 : ∀ (X : Cx) (p : Pos), X.N = [("self" : Str), "wrong"] → X.env.scope = scope → PE X (.Name "wrong" p) (tVar 1) := fun X p e1 e2 => pe_var (by rw [e1]; rfl) (by rw [e2]; exact .inl h11)
    refine ⟨tSeq (tDrop (tVeI K (tCons (tVar 0) (tCons (tC (.str msg)) tNil)))) (tOst K "wrong" (tVar 0) (tVar 1)), ?_, ?_⟩
    · refine pss_cons (ps_expr (pe_binit h8 hm h9 k.sp k.rd k.fc (pa_cons (vs0 _ _ rfl rfl) (pa_cons pe_str pa_nil)) (eval_meth rfl (by rw [h7]; exact beq_self_eq_true _) rfl) rfl rfl)) (pss_one (ps_ost (vs0 _ _ rfl rfl) (vs1 _ _ rfl rfl)))
    · obtain ⟨a, C, w, rfl, T, hno, e, q⟩ := hsp
      refine ⟨_, rfl, ⟨a, C, [.str msg], rfl, by simp, T, e, ?_⟩⟩
      exact ⟨w, rfl, .ref a, rfl, a, C, rfl, T, hno, .inl ⟨e, q⟩⟩
  · cases h
end
end
end G

namespace PySem
namespace HandSPX
open PySem.W PySem.Calls PyProof.Rows PyProof
/-! own exceptions made by keyword: C(k = v, ..), nothing by place (after HandSPX.call_own, which serves places alone) -/
section
variable {prog : Program} {w : World} {A : Around} {E : Value → Shared → Prop} {R : Result → Shared → Prop} {hp : Heap} {gs : Array GenState} {dr : Drawn} {tk : Nat} {os : OsState}
variable {nm q : Str} {C N : Addr} {bs ms mB : List Value} {hd : Bool} {sn : List Str} {sb : List Value} {ab : Bool} {cl : Option Bool} {dd : Option Addr} {u0 u1 u2 u3 u5 : Option Value} {B nI iI : String} {kw : List (Str × Value)}
def KwC (hp : Heap) (C : Addr) (mB ms : List Value) (nI : String) : Prop := ∃ nm q N bs hd sn sb ab cl dd u0 u1 u2 u3 u5, hp.get? C = some (excClassObj nm q C N bs ms hd sn sb ab cl dd u0 u1 u2 u3 u5 nI) ∧ ∀ X : String, ms.contains (.type X) = mB.contains (.type X)
theorem kw_has (T : ∀ X : String, ms.contains (.type X) = mB.contains (.type X)) {X : String} {b : Bool} (e : mB.contains (.type X) = b) : (Value.ref C :: ms).contains (.type X) = b := by
  rw [List.contains_cons, T, e]
  cases b <;> rfl
theorem kw_check {M : Model} (F : ExcBaseFacts B nI iI mB) (K : KwC hp C mB ms nI) {Q : Unit → Shared → Prop} (z : Q () ⟨hp, gs, dr, tk, os⟩) : wpAny M A (checkBuiltinCall nI ⟨[.ref C], kw⟩) Q E ⟨hp, gs, dr, tk, os⟩ := by
  obtain ⟨nm, q, N, bs, hd, sn, sb, ab, cl, dd, u0, u1, u2, u3, u5, oC, T⟩ := K
  have c1 := kw_has (C := C) T F.hasB
  have c2 := F.noStar
  simp only [checkBuiltinCall, F.newRow, F.newSplit, F.newKind]
  repeat (first | refine wpAny_loadPart_at oC ?_ | (refine wpAny_isSubtype_exc oC ?_; rw [c1]) | refine wpAny_staticBase_exc oC ?_ | refine wpAny_madeBy_exc oC ?_ | simp only [Bool.false_eq_true, bne_self_eq_false, if_false] | wp_step)
  exact z
theorem kw_new (F : ExcBaseFacts B nI iI mB) (K : KwC hp C mB ms nI) (z : R (.ok (.ret (.ref (hp.objs.size + 1)))) ⟨(hp.push (W.kdv_tup [])).push (excO C hp.objs.size), gs, dr, tk, os⟩) : codeAny (model prog w) A (.builtin nI ⟨[.ref C], kw⟩) R ⟨hp, gs, dr, tk, os⟩ := by
  obtain ⟨nm, q, N, bs, hd, sn, sb, ab, cl, dd, u0, u1, u2, u3, u5, oC, T⟩ := K
  have c0 := F.ends
  have c1 : ([] : List Value).length ≤ sizeLine := Nat.zero_le _
  have c2 := kw_has (C := C) T F.hasB
  have c3 := kw_has (C := C) T F.noAttr
  have c4 := kw_has (C := C) T F.noName
  refine codeAny_builtinAt F.entry (show wpAt _ _ _ (Builtin.«BaseException.__new__» _) _ _ _ from ?_)
  unfold Builtin.«BaseException.__new__»
  refine wpAt_bind (show wpAt _ _ _ (stack >>= _) _ _ _ from wpAt_bind (wpAt_stack fun p below => wpAt_of_wpAny ?_))
  wp_walk
  refine wpAt_of_wpAny (?_ : wpAny _ _ _ _ _ _)
  rw [F.owner]
  repeat (first | with_reducible refine wpAny_madeHere_exc F.canon oC ?_ | with_reducible refine wpAny_loadPart_at oC ?_ | (with_reducible refine wpAny_isSubtype_exc oC ?_; first | rw [c2] | rw [c3] | rw [c4]) | wp_step)
  show R _ _
  rw [Heap.size_push]
  exact z
theorem kw_type {fI : Addr} {Q : Fin → Shared → Prop} (F : ExcBaseFacts B nI iI mB) (K : KwC hp C mB ms nI) (li : W.Looks (model prog w) hp (typeLookup (.ref C) "__init__") (some (.ref fI))) (lb : ∀ self, W.Looks (model prog w) hp (bindSpecial (.ref fI) self) (.ref fI, [self]))
    (z : codeAny (model prog w) A (.call (.ref fI) ⟨[.ref (hp.objs.size + 1)], kw⟩) (fun r s' => match r with | .ok (.ret v) => v = .none ∧ Q (.done (.ret (.ref (hp.objs.size + 1)))) s' | .ok _ => False | .error e => E e s') ⟨(hp.push (W.kdv_tup [])).push (excO C hp.objs.size), gs, dr, tk, os⟩) :
    wpAny (model prog w) A (Builtin.«type.__call__» ⟨[.ref C], kw⟩) Q E ⟨hp, gs, dr, tk, os⟩ := by
  have K' := K
  obtain ⟨nm, q, N, bs, hd, sn, sb, ab, cl, dd, u0, u1, u2, u3, u5, oC, T⟩ := K
  repeat (first | with_reducible refine wpAny_loadPart_at oC ?_ | with_reducible refine wpAny_madeBy_exc oC ?_ | wp_step)
  refine codeAny_call_builtin_code (Code.quiet_builtin _ F.quiet) (kw_check F K' (kw_new F K' (show wpAny _ _ _ _ _ _ from ?_)))
  have up : ∀ b o, hp.get? b = some o → ((hp.push (W.kdv_tup [])).push (excO C hp.objs.size)).get? b = some o := fun _ _ x => Heap.get?_push_of_some _ (Heap.get?_push_of_some _ x)
  have oC' := up _ _ oC
  have oE : ((hp.push (W.kdv_tup [])).push (excO C hp.objs.size)).get? (hp.objs.size + 1) = some (excO C hp.objs.size) := by heap_get
  have own : (Value.ref C :: ms).contains (.ref C) = true := by simp
  unfold isInstance
  repeat (first | with_reducible refine wpAny_loadPart_at oE ?_ | (with_reducible refine wpAny_isSubtype_exc oC' ?_; rw [own]) | wp_step)
  show wpAny _ _ (typeLookup (.ref C) _) _ _ _
  refine (li.keeps up).at (wpAny_holding (wpAny_bind (((lb (.ref (hp.objs.size + 1))).keeps up).at (wpAny_bind (wpAny_call (codeAny_mono z fun r s' y => ?_))))))
  rcases r with e | (v | _ | _ | _) <;> first | exact y | exact y.elim | skip
  obtain ⟨rfl, y⟩ := y
  first
    | exact wpAny_pure (wpAny_pure y)
    | (wp_walk; exact y)
theorem kw_call {fI : Addr} (F : ExcBaseFacts B nI iI mB) (K : KwC hp C mB ms nI) (li : W.Looks (model prog w) hp (typeLookup (.ref C) "__init__") (some (.ref fI))) (lb : ∀ self, W.Looks (model prog w) hp (bindSpecial (.ref fI) self) (.ref fI, [self]))
    (z : codeAny (model prog w) (A.under (.builtin "type.__call__" ⟨[.ref C], kw⟩)) (.call (.ref fI) ⟨[.ref (hp.objs.size + 1)], kw⟩) (W.InitBack (hp.objs.size + 1) R) ⟨(hp.push (W.kdv_tup [])).push (excO C hp.objs.size), gs, dr, tk, os⟩) :
    codeAny (model prog w) A (.call (.ref C) ⟨[], kw⟩) R ⟨hp, gs, dr, tk, os⟩ := by
  have K' := K
  obtain ⟨nm, q, N, bs, hd, sn, sb, ab, cl, dd, u0, u1, u2, u3, u5, oC, T⟩ := K
  have l1 := tc_lookup
  have l2 := tc_bind (.ref C)
  have ty : (⟨hp, gs, dr, tk, os⟩ : Shared).TypeIs (.ref C) "type" := ⟨_, oC, rfl⟩
  refine codeAny_of_tree (show wpAny _ _ (callAny (.ref C) _) _ _ _ from ?_)
  repeat (any_goals (first | assumption | with_reducible refine wpAny_loadPart_at oC ?_ | wp_step))
  refine ⟨rfl, codeAny_call_builtin_at (Code.quiet_builtin _ (by decide +kernel)) entry_typeCall (wpAny_check_type_call_sub oC (kw_type F K' li lb (codeAny_mono z fun r s' y => ?_)))⟩
  rcases r with e | (v | _ | _ | _) <;> exact y
end
end HandSPX
end PySem

namespace L2
open PySem PySem.Spec PyProof.Rows
section
variable {X : Cx}
/-- K(k = v, ..) of a class with its own __init__, nothing by place -/
theorem pmk_oexK {CX : CXT} {x : Str} {C fI : Addr} {n : Nat} {fd : FuncData} {ps ks : List Str} {sp : Sp} {kws : List Keyword} {tk : TA} {p pos : Pos} (T : OexC X.K C) (iC : PySem.W.findIn X.K (.ref C) "__init__" = some (some (.ref fI))) (tI : PySem.W.typeIn X.K (.ref fI) = some (.type "function"))
    (F1 : FnOk X.prog X.w X.K X.mg X.base CX n fI fd ps sp) (hr : Room (n + 1) X.A) (lk : ps.length = ks.length + 1) (hb : ∀ (s : Shared) (self : Value) (ws : List Value), X.K.In s.heap → ws.length = ks.length → BindsTo s fd ⟨[self], ks.zip ws⟩ (ps.zip (self :: ws))) (hx : Passes CX X (fun _ _ _ => False)) (hg : Gl X x) (hm : X.mg x = some (.ref C)) (hp : PK X kws tk)
    (hdb : (x == ("__debug__" : Str)) = false) (hall : (backToKw pos (keywordEach kws X.env)).all (·.1.isSome) = true) (hks : (backToKw pos (keywordEach kws X.env)).filterMap (·.1) = ks) (hpl : (backToKw pos (keywordEach kws X.env)).any (·.1.isNone) = false) :
    PMk X (.Call (.Name x p) [] kws pos) (tMkO C sp [] tk) := by
  intro pins s σ H Q I h
  obtain ⟨nm, q, N, bs, bm, sn, sub, ab, col, dd, k0, k1, k2, k3, k5, oC, vE⟩ := T.cls
  refine wpAny_Call_Name_kw (ld_glob I hg hm (PySem.W.callWith_KW0 (h₀ := X.base) I.ok.mod.kin T.kC hall (thn (hp.run pos pins s σ H _ I h) fun ws s1 y => ?_) (by show ((([] : List (Bool × Sem Value)).any (·.1)) || _) = false; rw [hpl]; rfl)) hdb)
  obtain ⟨zs, H1, I1, rz, _, y⟩ := y
  refine ⟨I1.kIn, ?_⟩
  rw [hks]
  show wpAny _ _ (call (.ref C) [] (ks.zip ws)) _ _ _
  obtain ⟨hp0, gs, dr, tk0, os⟩ := s1
  have sz := Nat.le_succ hp0.objs.size
  have fr : H1 (hp0.objs.size + 1) = none := I1.hok.fresh sz
  have z := y (hp0.objs.size + 1) fr
  rw [List.append_nil] at z
  have up : ∀ b o, hp0.get? b = some o → ((hp0.push (PySem.W.kdv_tup [])).push (PySem.HandSPX.excO C hp0.objs.size)).get? b = some o := fun _ _ e => Heap.get?_push_of_some _ (Heap.get?_push_of_some _ e)
  have oE : ((hp0.push (PySem.W.kdv_tup [])).push (PySem.HandSPX.excO C hp0.objs.size)).get? (hp0.objs.size + 1) = some (PySem.HandSPX.excO C hp0.objs.size) := by heap_get
  have I2 : Inv X pins σ (upd H1 (hp0.objs.size + 1) (exo (hp0.objs.size + 1) C none)) ⟨(hp0.push (PySem.W.kdv_tup [])).push (PySem.HandSPX.excO C hp0.objs.size), gs, dr, tk0, os⟩ := I1.laid (t' := tk0) (a := hp0.objs.size + 1) (o := exo (hp0.objs.size + 1) C none) (h' := (hp0.push (PySem.W.kdv_tup [])).push (PySem.HandSPX.excO C hp0.objs.size)) up sz (exo_ok oE)
  have ll : ws.length = ks.length := by
    have e := F1.len _ _ _ _ z
    rw [List.length_cons, lk] at e
    have := rz.length
    omega
  have vv : Vals (V.ref (hp0.objs.size + 1) :: zs) (Value.ref (hp0.objs.size + 1) :: ws) := .cons rfl rz
  refine wpAny_call (PySem.HandSPX.kw_call F.excBase_ValueError ⟨_, _, _, _, _, _, _, _, _, _, _, _, _, _, _, I1.kIn _ _ oC, fun Y => PySem.HandSPX.refsVE_contains Y bm vE⟩ (PySem.W.looks_findIn I1.kIn iC) (fun self => PySem.W.bind_fn I1.kIn self tI)
    (codeAny_mono (F1.run _ X.stack _ _ ⟨[Value.ref (hp0.objs.size + 1)], ks.zip ws⟩ (Value.ref (hp0.objs.size + 1) :: ws) _ _ (fun _ _ _ => False) (hr.make C [] _) (I2.env0.make C [] _) (hb _ _ ws I2.kIn ll) vv z) fun r s' t => ?_))
  cases r with
  | error er => exact hx pins σ _ _ er s' I2 t
  | ok fl =>
    cases fl with
    | ret u =>
      obtain ⟨v, H2, o2, b2, n2, h2, rv, ev, d, fs, ea, ed, hd, t⟩ := t
      subst ev
      obtain ⟨hp2, g2, d2, t2, os'⟩ := s'
      exact ⟨rv, mk_end (raises_own T.exC T.tyC) I1 sz up n2 h2 o2 b2 ea ed hd t⟩
    | next => exact False.elim t
    | brk => exact False.elim t
    | cont => exact False.elim t
end
end L2

namespace G
open PySem PySem.Spec PyProof.Rows L2
open Classical
noncomputable section
/-! ### sorted, of lists of data -/
section
variable {X : Cx} {pins : List (Addr × Obj)} {σ : L2.St} {H : Hp} {s : Shared}
theorem each_of_vals {β : Type} (f : β → V) : ∀ (bs : List β) {us : List Value}, Vals (bs.map f) us → PySem.W.EachIs (fun v b => RelV (f b) v) us bs
  | [], _, .nil => .nil
  | _ :: bs, _, .cons h t => .cons h (each_of_vals f bs t)
theorem vals_of_each {β : Type} (f : β → V) {bs : List β} {us : List Value} (h : PySem.W.EachIs (fun v b => RelV (f b) v) us bs) : Vals (bs.map f) us := by
  induction h with
  | nil => exact .nil
  | cons h _ ih => exact .cons h ih
theorem each_reads {β : Type} (I : Inv X pins σ H s) (f : β → V) (g : β → PyData) : ∀ (bs : List β) {us : List Value}, (∀ b ∈ bs, Dp X.K H (f b) (g b)) → Vals (bs.map f) us → PySem.W.EachIs (fun v b => ∃ as, Reads s.heap v (g b) as) us bs
  | [], _, _, .nil => .nil
  | b :: bs, _, hd, .cons h t => .cons (Dp.reads I (g b) (f b) _ (hd b List.mem_cons_self) h) (each_reads I f g bs (fun c hc => hd c (List.mem_cons_of_mem _ hc)) t)
def srtB {β : Type} (g : β → PyData) (bs : List β) : List β := bs.mergeSort (PySem.W.dataLe false g)
theorem srtB_map {β : Type} (g : β → PyData) (bs : List β) : (srtB g bs).map g = srtD (bs.map g) := PySem.W.sort_maps g fun _ _ _ _ => rfl
theorem srtB_len {β : Type} (g : β → PyData) (bs : List β) : (srtB g bs).length = bs.length := List.length_mergeSort ..
theorem srtB_perm {β : Type} (g : β → PyData) (bs : List β) : (srtB g bs).Perm bs := List.mergeSort_perm ..
def rSrtL (K : PySem.W.Frag) : List V → Hp → VK → Prop := fun vs H Q => ∃ (a : Addr) (bs : List (V × PyData)), vs = [V.ref a] ∧ SqL K H a (bs.map (·.1)) ∧ (∀ b ∈ bs, Dp K H b.1 b.2) ∧ SrtOk (bs.map (·.2)) ∧
  ∀ p, H p = none → Q (.ref p) (upd H p (.lst ((srtB (·.2) bs).map (·.1))))
theorem cr_srtL (hu : X.A.units + 65 < cLine) : CallR X (.builtin "sorted") (rSrtL X.K) := by
  intro pins s σ H vs us Q I r h
  obtain ⟨a, bs, rfl, hs, hd, ⟨k1, k2, k3⟩, q⟩ := h
  obtain ⟨its, rv, hl, hz⟩ := I.list hs
  rw [Vals.ref1 r]
  rw [List.length_map] at hz
  refine PySem.W.sorted_data (β := V × PyData) (bs := bs) (enc := fun b => b.2) (R := fun v b => RelV b.1 v) hl.isList (each_of_vals _ _ rv) (each_reads I (·.1) (·.2) bs hd rv) k1 k2 hz (fun b hb => ?_) fun out ho eo => ?_
  · have := k3 b.2 (List.mem_map.mpr ⟨b, hb, rfl⟩)
    omega
  · obtain ⟨n, hn⟩ := PyProof.Rows.sortedAll_at s.heap its out.toArray
    have fr : H (s.heap.objs.size + 1) = none := I.hok.fresh (by omega)
    refine ⟨.ref _, _, I.laid (a := s.heap.objs.size + 1) (o := .lst ((srtB (·.2) bs).map (·.1))) (t' := s.toks) (fun _ _ z => PyProof.Rows.sortedAll_old z) (by omega) ⟨?_, out, n, vals_of_each _ eo, hn⟩, rfl, q _ fr⟩
    show ((srtB (·.2) bs).map (·.1)).length ≤ sizeLine
    rw [List.length_map, srtB_len]
    exact hz
/-! ### d.items() as a view, sorted of it -/
def rItemsK : V → List V → Hp → VK → Prop := fun x xs H Q => ∃ (a : Addr) (kvs : List (Key × V)), x = .ref a ∧ xs = [] ∧ H a = some (.dK kvs) ∧ ∀ p, H p = none → Q (.ref p) (upd H p (DX.itemsO p a))
theorem raw_of {P : Program} {w : World} {h : Heap} {a : Addr} {vs : List (Key × Value)} (x : h.DictOf (mixKind P w) a vs) : ∃ es ep, DT.Raw h a es ep ∧ Pairs (mixKind P w) es.toList vs := by
  obtain ⟨o, es, ep, h1, h2, h3, _, h5, _⟩ := x
  exact ⟨es, ep, ⟨o, h1, h2, h3⟩, h5⟩
theorem mt_itemsK : MtR X "dict.items" rItemsK := by
  intro pins s σ H x xs v us Q I rx rxs h
  obtain ⟨a, kvs, rfl, rfl, ha, q⟩ := h
  cases rx
  cases rxs
  obtain ⟨z, z2, vs, kv, dd⟩ := dk_of I.hok ha
  obtain ⟨es, ep, hr, _⟩ := raw_of dd
  refine DT.callItems (es := es) (ep := ep) z2 hr ?_
  have fr : H s.heap.objs.size = none := I.hok.fresh (Nat.le_refl _)
  exact ⟨.ref s.heap.objs.size, _, I.laid (a := s.heap.objs.size) (o := DX.itemsO s.heap.objs.size a) (t' := s.toks) (fun _ _ z => Heap.get?_push_of_some _ z) (Nat.le_refl _) (DX.itemsO_ok (Heap.get?_push_size _ rfl)), rfl, q _ fr⟩
abbrev KB := (Key × V) × PyData
def itB (b : KB) : PyData := itemP (b.1.1, b.2)
def rSrtIt (K : PySem.W.Frag) : List V → Hp → VK → Prop := fun vs H Q => ∃ (p a : Addr) (bs : List KB), vs = [.ref p] ∧ H p = some (DX.itemsO p a) ∧ H a = some (.dK (bs.map (·.1))) ∧ (∀ b ∈ bs, Dp K H b.1.2 b.2) ∧ SrtOk (bs.map itB) ∧ bs.length ≤ LIM ∧
  ∀ (H' : Hp) (l : Addr) (ys : List V), Same H H' → H l = none → H' l = some (.lst ys) → Paired (fun y (b : KB) => ∃ t, y = V.ref t ∧ H t = none ∧ H' t = some (.tup [kV b.1.1, b.1.2])) ys (srtB itB bs) → Q (.ref l) H'
theorem pairs_get {P : Program} {w : World} {es : List DictEntry} {vs : List (Key × Value)} (h : Pairs (mixKind P w) es vs) : ∀ {j : Nat} {e : DictEntry}, es[j]? = some e → ∃ kv, vs[j]? = some kv ∧ (mixKind P w).is kv.1 e.key = true ∧ e.val = kv.2 := by
  induction h with
  | nil => intro j e z; simp at z
  | cons a b t ih =>
    intro j e z
    cases j with
    | zero =>
      simp at z
      subst z
      exact ⟨_, rfl, a, b⟩
    | succ j => simpa using ih (by simpa using z)
theorem paired_at {α β : Type} {R : α → β → Prop} {xs : List α} {ys : List β} (h : Paired R xs ys) : ∀ {j : Nat} {y : β}, ys[j]? = some y → ∃ x, xs[j]? = some x ∧ R x y := by
  induction h with
  | nil => intro j y z; simp at z
  | cons a t ih =>
    intro j y z
    cases j with
    | zero => simp at z; subst z; exact ⟨_, rfl, a⟩
    | succ j => simpa using ih (by simpa using z)
theorem relV_ofKey {P : Program} {w : World} {k : Key} {u : Value} (h : (mixKind P w).is k u = true) : RelV (kV k) u := L2.relV_key (show keyIs k u = true from h)
mutual
theorem reads_lt {h : Heap} : ∀ {d : PyData} {v : Value} {as : List Addr}, PySem.W.alike d d = true → Reads h v d as → ∀ a ∈ as, a < h.objs.size
  | .none, _, _, _, r => by cases r; intro a z; cases z
  | .bool _, _, _, _, r => by cases r; intro a z; cases z
  | .int _, _, _, _, r => by cases r; intro a z; cases z
  | .str _, _, _, _, r => by cases r; intro a z; cases z
  | .list _, _, _, k, r => by
    cases r with
    | list h1 h2 h3 h4 =>
      intro a z
      rcases List.mem_cons.mp z with rfl | z
      · exact Heap.lt_size h1
      · exact readsAll_lt (by simpa [PySem.W.alike] using k) h4 a z
  | .tuple _, _, _, k, r => by
    cases r with
    | tuple h1 h2 h3 h4 => exact readsAll_lt (by simpa [PySem.W.alike] using k) h4
  | .dict kvs, _, _, k, r => absurd k (by simp [PySem.W.alike])
theorem readsAll_lt {h : Heap} : ∀ {ds : List PyData} {vs : List Value} {as : List Addr}, PySem.W.alikeAll ds ds = true → ReadsAll h vs ds as → ∀ a ∈ as, a < h.objs.size
  | [], _, _, _, r => by cases r; intro a z; cases z
  | d :: ds, _, _, k, r => by
    have k2 : PySem.W.alike d d = true ∧ PySem.W.alikeAll ds ds = true := by simpa [PySem.W.alikeAll] using k
    cases r with
    | cons h1 h2 =>
      intro a z
      rcases List.mem_append.mp z with z | z
      · exact reads_lt k2.1 h1 a z
      · exact readsAll_lt k2.2 h2 a z
end
theorem zip_idx {α β : Type} {as : List α} {bs : List β} {z : α × β} (h : z ∈ as.zip bs) : ∃ j : Nat, as[j]? = some z.1 ∧ bs[j]? = some z.2 := by
  obtain ⟨j, hj⟩ := List.mem_iff_getElem?.mp h
  exact ⟨j, List.getElem?_zip_eq_some.mp hj⟩
theorem cr_srtIt (hc : X.calm = true) (hu : X.A.units + 65 < cLine) : CallR X (.builtin "sorted") (rSrtIt X.K) := by
  intro pins s σ H xs us Q I r h
  obtain ⟨p, a, bs, rfl, hp, ha, hd, ⟨k1, k2, k3⟩, hl, q⟩ := h
  rw [Vals.ref1 r]
  have view : s.heap.IsItemsView p a := (show ObjOk X.prog X.w H s.heap p (DX.itemsO p a) from I.hok p _ hp).1
  obtain ⟨z, z2, vs, kv, dd⟩ := dk_of I.hok ha
  obtain ⟨es, ep, hr, hp2⟩ := raw_of dd
  have len1 : bs.length = vs.length := by
    have := Paired.length kv
    rwa [List.length_map] at this
  have len2 : es.size = vs.length := by
    have := hp2.length
    rwa [Array.length_toList] at this
  have lz : bs.length ≤ sizeLine := lim_le hl
  refine DT.sortedI (es := es) (ep := ep) (I.ok.hd hc) view hr (by omega) fun h' tk as hold hlt hln hG => ?_
  have lab : as.length = bs.length := by omega
  have nd : as.Nodup := List.Pairwise.imp (fun h => Nat.ne_of_lt h) hG.rise
  have pr : ∀ (j : Nat) (t : Addr), as[j]? = some t → ∃ (b : KB) (ku vu : Value), bs[j]? = some b ∧ RelV (kV b.1.1) ku ∧ RelV b.1.2 vu ∧ h'.get? t = some { cls := .type "tuple", data := .seq #[ku, vu] } := by
    intro j t hj
    obtain ⟨e, he, ht⟩ := hG.pairs j t hj
    obtain ⟨kq, g1, g2, g3⟩ := pairs_get hp2 (j := j) (e := e) (by rw [Array.getElem?_toList]; exact he)
    obtain ⟨x, f1, f2⟩ := paired_at kv g1
    rw [List.getElem?_map] at f1
    cases hb : bs[j]? with
    | none => rw [hb] at f1; cases f1
    | some b =>
      rw [hb] at f1
      have ex : b.1 = x := Option.some.inj f1
      refine ⟨b, e.key, e.val, rfl, relV_ofKey (P := X.prog) (w := X.w) (by rw [ex, f2.1]; exact g2), ?_, ht⟩
      rw [g3, ex]
      exact f2.2
  generalize hh2 : h'.push { cls := .type "list", data := .seq (as.map Value.ref).toArray } = h2
  have hob : h2.get? h'.objs.size = some (seqObj "list" (as.map Value.ref).toArray 0) := by
    rw [← hh2]
    exact Heap.get?_push_size _ rfl
  have ka : ∀ b o, h'.get? b = some o → h2.get? b = some o := fun b o e => by
    rw [← hh2]
    exact Heap.get?_push_of_some _ e
  have kb : ∀ b o, s.heap.get? b = some o → h2.get? b = some o := fun b o e => ka b o (hold b o e)
  have frL : H h'.objs.size = none := I.hok.fresh (Nat.le_of_lt hlt)
  have I1 : Inv X pins σ (upd H h'.objs.size (.lst (as.map V.ref))) { s with heap := h2, toks := tk } := I.laid (a := h'.objs.size) (o := .lst (as.map V.ref)) (t' := tk) kb (Nat.le_of_lt hlt) ⟨by rw [List.length_map]; omega, as.map Value.ref, 0, LiI.vals_refs as, hob⟩
  obtain ⟨H2, I2, g2, t2⟩ := DX.takeT (P := fun t us => ∃ (j : Nat) (b : KB), as[j]? = some t ∧ bs[j]? = some b ∧ us = [kV b.1.1, b.1.2]) I as _ I1 nd fun t ht => by
    obtain ⟨j, hj⟩ := List.mem_iff_getElem?.mp ht
    obtain ⟨b, ku, vu, e1, e2, e3, e4⟩ := pr j t hj
    have le : s.heap.objs.size ≤ t := Nat.le_of_lt (hG.above t ht)
    refine ⟨le, ?_, _, ⟨j, b, hj, e1, rfl⟩, fun H3 => ⟨by show 2 ≤ sizeLine; decide, [ku, vu], .cons e2 (.cons e3 .nil), ⟨_, ka _ _ e4, rfl, 0, rfl⟩⟩⟩
    rw [upd_ne (Nat.ne_of_lt (Heap.lt_size e4))]
    exact I.hok.fresh le
  have sm : Same H H2 := fun b o e => g2 b o (by rw [upd_ne (ne_of_none e frL)]; exact e)
  have hL2 : H2 h'.objs.size = some (.lst (as.map V.ref)) := g2 _ _ upd_same
  have at2 : ∀ (j : Nat) (t : Addr) (b : KB), as[j]? = some t → bs[j]? = some b → H2 t = some (.tup [kV b.1.1, b.1.2]) := by
    intro j t b hj hb
    obtain ⟨us, ⟨i, b', e1, e2, rfl⟩, e4⟩ := t2 t (List.mem_of_getElem? hj)
    have eij : i = j := (List.getElem?_inj (List.getElem?_eq_some_iff.mp e1).1 nd).mp (e1.trans hj.symm)
    subst eij
    rw [hb] at e2
    cases e2
    exact e4
  have frT : ∀ t ∈ as, H t = none := fun t ht => I.hok.fresh (Nat.le_of_lt (hG.above t ht))
  have zm : (as.zip bs).map (fun z => itB z.2) = bs.map itB := by
    have : (as.zip bs).map (fun z => z.2) = bs := List.map_snd_zip (by omega)
    conv => rhs; rw [← this]
    rw [List.map_map]
    rfl
  have zf : (as.zip bs).map (fun z => V.ref z.1) = as.map V.ref := by
    have : (as.zip bs).map (fun z => z.1) = as := List.map_fst_zip (by omega)
    conv => rhs; rw [← this]
    rw [List.map_map]
    rfl
  have zl : (as.zip bs).length = bs.length := by rw [List.length_zip]; omega
  have zv : Vals ((as.zip bs).map fun z => V.ref z.1) (as.map Value.ref) := by
    rw [zf]
    exact LiI.vals_refs as
  refine PySem.W.list_sort_data (vs := as.map Value.ref) (bs := as.zip bs) (enc := fun z => itB z.2) (R := fun v z => RelV (V.ref z.1) v) hob (each_of_vals _ _ zv) ?_ (by rw [zm]; exact k1) (by rw [zm]; exact k2) (by rw [zl]; exact lz) (fun z hz => ?_) fun out ho eo => ?_
  · have each : ∀ (zs : List (Addr × KB)) (us : List Value), (∀ z ∈ zs, z ∈ as.zip bs) → Vals (zs.map fun z => V.ref z.1) us → PySem.W.EachIs (fun v z => ∃ as', Reads h2 v (itB z.2) as' ∧ h'.objs.size ∉ as') us zs := by
      intro zs
      induction zs with
      | nil => intro us _ hv; cases hv; exact .nil
      | cons z zs ih =>
        intro us hz hv
        cases hv with
        | cons h1 h2' =>
          refine .cons ?_ (ih _ (fun y hy => hz y (List.mem_cons_of_mem _ hy)) h2')
          obtain ⟨j, j1, j2⟩ := zip_idx (hz z List.mem_cons_self)
          obtain ⟨b, ku, vu, e1, e2, e3, e4⟩ := pr j z.1 j1
          rw [j2] at e1
          cases e1
          cases h1
          have mb := List.mem_of_getElem? j2
          obtain ⟨a1, r1⟩ := Dp.reads I z.2.2 z.2.1.2 vu (hd _ mb) e3
          have al := k1 _ (List.mem_map.mpr ⟨z.2, mb, rfl⟩) _ (List.mem_map.mpr ⟨z.2, mb, rfl⟩)
          have al2 : PySem.W.alike z.2.2 z.2.2 = true := by
            have al' : PySem.W.alike (PyData.tuple [keyP z.2.1.1, z.2.2]) (PyData.tuple [keyP z.2.1.1, z.2.2]) = true := al
            simp only [PySem.W.alike, PySem.W.alikeAll, Bool.and_eq_true] at al'
            exact al'.2.1
          have lt1 := reads_lt al2 r1
          have rk : Reads h2 ku (keyP z.2.1.1) [] := by
            generalize z.2.1.1 = k at e2
            cases k with
            | inl i => obtain ⟨t, rfl⟩ := (show ∃ t, ku = Value.int i t from e2); exact .int _ _
            | inr i => obtain ⟨t, rfl⟩ := (show ∃ t, ku = Value.str i t from e2); exact .str _ _
          refine ⟨[] ++ (a1 ++ []), .tuple (ka _ _ e4) rfl rfl (.cons rk (.cons (PyProof.Rows.Reads.keeps kb r1) .nil)), fun hm => ?_⟩
          have hm' : h'.objs.size ∈ a1 := by simpa using hm
          exact absurd hlt (Nat.not_lt.mpr (Nat.le_of_lt (lt1 _ hm')))
    exact each _ _ (fun z hz => hz) zv
  · have hz' : itB z.2 ∈ bs.map itB := by
      rw [← zm]
      exact List.mem_map.mpr ⟨z, hz, rfl⟩
    have := k3 _ hz'
    show X.A.in1.units + 1 + (itB z.2).depth < cLine
    have e1 : X.A.in1.units = X.A.units + 1 := rfl
    omega
  · obtain ⟨n, hn⟩ := PyProof.Rows.sortedHeap_at (vs := as.map Value.ref) (out := out.toArray) hob
    have lq : ((srtB (fun z : Addr × KB => itB z.2) (as.zip bs)).map fun z => V.ref z.1).length ≤ sizeLine := by
      rw [List.length_map, srtB_len, zl]
      exact lz
    have I3 : Inv X pins σ (upd H2 h'.objs.size (.lst ((srtB (fun z : Addr × KB => itB z.2) (as.zip bs)).map fun z => V.ref z.1))) { s with heap := sortedHeap h2 h'.objs.size (as.map Value.ref) out.toArray, toks := tk } :=
      Inv.write (s := { s with heap := h2, toks := tk }) (x := h'.objs.size) (e := h'.objs.size) (t' := tk) I2 (by rw [hL2]; trivial) (.inl rfl) (fun b u hb e => (PyProof.Rows.sortedHeap_old hb (Heap.lt_size e)).trans e) ⟨_, hn⟩ ⟨lq, out, n, vals_of_each _ eo, hn⟩
    refine ⟨.ref h'.objs.size, _, I3, rfl, q _ h'.objs.size _ (fun b o e => ?_) frL upd_same ?_⟩
    · rw [upd_ne (ne_of_none e frL)]
      exact sm b o e
    · have e1 : (srtB (fun z : Addr × KB => itB z.2) (as.zip bs)).map (·.2) = srtB itB bs := by
        have : (as.zip bs).map (fun z => z.2) = bs := List.map_snd_zip (by omega)
        unfold srtB
        rw [PySem.W.sort_maps (fun z : Addr × KB => z.2) (r := PySem.W.dataLe false fun z : Addr × KB => itB z.2) (s := PySem.W.dataLe false itB) (fun _ _ _ _ => rfl), this]
      rw [← e1]
      have gen : ∀ zs : List (Addr × KB), (∀ z ∈ zs, z ∈ as.zip bs) → Paired (fun y (b : KB) => ∃ t, y = V.ref t ∧ H t = none ∧ upd H2 h'.objs.size (.lst ((srtB (fun z : Addr × KB => itB z.2) (as.zip bs)).map fun z => V.ref z.1)) t = some (.tup [kV b.1.1, b.1.2])) (zs.map fun z => V.ref z.1) (zs.map (·.2)) := by
        intro zs
        induction zs with
        | nil => intro _; exact .nil
        | cons z zs ih =>
          intro hz
          refine .cons ?_ (ih fun y hy => hz y (List.mem_cons_of_mem _ hy))
          obtain ⟨j, j1, j2⟩ := zip_idx (hz z List.mem_cons_self)
          refine ⟨z.1, rfl, frT _ (List.mem_of_getElem? j1), ?_⟩
          have ne : z.1 ≠ h'.objs.size := Nat.ne_of_lt (hG.there (List.mem_of_getElem? j1))
          rw [upd_ne ne]
          exact at2 j _ _ j1 j2
      exact gen _ fun z hz => (srtB_perm _ _).mem_iff.mp hz
end
end
end G

namespace G
open PySem PySem.Spec PyProof.Rows L2
/-! ### set(xs), a list of ints -/
section
variable {P : Program} {w : World} {A : Around} {E : Value → Shared → Prop} {s : Shared}
abbrev newSet (w : World) : Obj := { cls := .type "set", dict := none, data := .set #[] 0 (.fresh 0 0 (!w.params.followText "set-order")) }
theorem call_setL {l : Addr} {items : Array Value} (ns : List Int) {Q : Value → Shared → Prop} (hh : A.handled = none) (hl : s.heap.IsList l items) (hi : IntsAre items.toList ns) (hb : ns.length + 1 < scanBound)
    (h : ∀ (h' : Heap) (tk c : Nat), SetR w h' s.heap.objs.size (fun j => decide (j ∈ ns)) c → c ≤ ns.length → (∀ b o, s.heap.get? b = some o → h'.get? b = some o) → Q (.ref s.heap.objs.size) { s with heap := h', toks := tk }) : wpAny (model P w) A (call (.type "set") [.ref l]) Q E s := by
  have sz : items.size = ns.length := (Array.length_toList (xs := items)).symm.trans (IntsAre.length hi)
  obtain ⟨c, tl, hmro⟩ := id F.called_set.mro
  have hmade := id F.called_set.made; have hsub := id F.called_set.sub
  refine wpAny_call (codeAny_of_tree (show wpAny _ _ (callAny (.type "set") _) _ _ _ from wpAny_pure ⟨Code.quiet_builtin _ (by decide +kernel), codeAny_builtin F.entry_type_call ?_⟩))
  rw [Around.under_plain (weight_type_call_type "set" [.ref l] []) (by rfl)]
  have h1 := id F.called_set.notType; have h2 := id F.called_set.canCreate; have hct := id (F.typeCall_set_1 (.ref l))
  repeat (any_goals (first | assumption | wp_step))
  have hg : (s.heap.push (newSet w)).get? s.heap.objs.size = some (newSet w) := Heap.get?_push_size _ (by rfl)
  refine codeAny_mono (code_set_led1 (.ref l) (E := E) (Q₁ := fun v t => v = .ref s.heap.objs.size ∧ t = { s with heap := s.heap.push (newSet w) }) ⟨rfl, rfl⟩) fun r t hr => ?_
  match r, hr with
  | .error e, hr => exact hr
  | .ok (.next), hr => exact hr.elim
  | .ok (.brk), hr => exact hr.elim
  | .ok (.cont), hr => exact hr.elim
  | .ok (.ret v), hr =>
  obtain ⟨rfl, rfl⟩ := hr
  have hT : Shared.TypeIs { s with heap := s.heap.push (newSet w) } (.ref s.heap.objs.size) "set" := ⟨_, hg, rfl⟩
  have hli := id F.called_set.init.lookup; have hbi := id (F.called_set.init.bind (.ref s.heap.objs.size))
  repeat (any_goals (first | assumption | wp_step))
  refine codeAny_mono (codeAny_call_builtin (R := wants (fun r t => r = .none ∧ ∃ h' tk c, t = { s with heap := h', toks := tk } ∧ SetR w h' s.heap.objs.size (fun j => decide (j ∈ ns)) c ∧ c ≤ ns.length ∧ ∀ b o, s.heap.get? b = some o → h'.get? b = some o) E)
    F.called_set.init.plain F.entry_set_init (check_set_init_1 hT ?_)) fun r2 t2 hr2 => ?_
  · obtain ⟨⟨oc, od, oda, osl⟩, e1, e2, n, e3⟩ := hl
    simp only at e2 e3
    subst e2 e3
    have e4 : (s.heap.push (newSet w)).get? l = some { cls := .type "list", dict := od, data := .seq items n, slots := osl } := Heap.get?_push_of_some _ e1
    have q1 := F.sub_list_set; have q2 := F.sub_list_frozenset
    have q3 : (Value.type "list" == Value.type "dict") = false := by decide +kernel
    have e5 : (s.heap.push (newSet w)).IsList l items := ⟨_, e4, rfl, n, rfl⟩
    unfold Builtin.«set.__init__» noKeywords Builtin.Frozenset.updateFrom
    generalize hPI : pyIter = PI
    wp_walk
    subst hPI
    refine wpAny_pyIter_list e5 (wpAny_bind (wpAny_runValue ?_))
    have lt : l < s.heap.objs.size := Heap.lt_size e1
    have s1 : (s.heap.push (newSet w)).objs.size = s.heap.objs.size + 1 := Heap.size_push ..
    have ne : l ≠ (s.heap.push (newSet w)).objs.size := by rw [s1]; exact Nat.ne_of_lt (Nat.lt_succ_of_lt lt)
    have nf : s.heap.objs.size ∉ [(s.heap.push (newSet w)).objs.size, l] := by
      rw [s1]
      simp only [List.mem_cons, List.not_mem_nil, or_false, not_or]
      exact ⟨Nat.ne_of_lt (Nat.lt_succ_self _), Nat.ne_of_gt lt⟩
    have hval : ∀ (i : Nat) (v : Value), items[i]? = some v → ∃ k t, ns[i]? = some k ∧ v = .int k t := fun i v hv => by
      have li : i < ns.length := by rw [← sz]; exact (Array.getElem?_eq_some_iff.mp hv).1
      obtain ⟨t, e⟩ := PyProof.Rows.IntsAre.int_at hi i v ((Array.getElem?_toList ..).trans hv)
      exact ⟨ns[i], t, List.getElem?_eq_getElem li, by rw [e, List.getD_eq_getElem?_getD, List.getElem?_eq_getElem li] <;> rfl⟩
    refine set_update_ints (Walks.toS (Walks.list (by simp [hh]) _ l ne items)) s.heap.objs.size nf ns sz hb hval (items.size - 0) 0 _ (by omega) (Nat.zero_le _)
      ⟨⟨_, Heap.get?_push_size _ rfl, rfl, rfl⟩, e5.push _⟩ ⟨0, Nat.le_refl 0, setR_new_at (Heap.get?_push_of_some _ hg)⟩ fun t c2 hm hc hS => ?_
    obtain ⟨h', g2, d2, tk, os2⟩ := t
    obtain rfl : g2 = s.gens := hm.gens
    obtain rfl : d2 = s.drawn := hm.drawn
    obtain rfl : os2 = s.os := hm.os
    show wpAny _ _ _ _ _ _
    refine wpAny_pure (show wpAny _ _ (ret Value.none) _ _ _ from wpAny_pure ⟨rfl, h', tk, c2, rfl, hS, by omega, fun b o e => hm.heap b o (fun z => ?_) (Heap.get?_push_of_some _ (Heap.get?_push_of_some _ e))⟩)
    have lb := Heap.lt_size e
    rcases List.mem_cons.mp z with z | z
    · exact absurd z (Nat.ne_of_lt lb)
    · have z := List.mem_singleton.mp z
      rw [s1] at z
      exact absurd z (Nat.ne_of_lt (Nat.lt_succ_of_lt lb))
  · match r2, hr2 with
    | .error e, hr2 => exact hr2
    | .ok (.next), hr2 => exact hr2.elim
    | .ok (.brk), hr2 => exact hr2.elim
    | .ok (.cont), hr2 => exact hr2.elim
    | .ok (.ret v), hr2 =>
    obtain ⟨rfl, h', tk, c2, rfl, hS, hc, hk⟩ := hr2
    repeat (any_goals (first | assumption | wp_step))
    exact h _ _ _ hS hc hk
end
end G

namespace G
open PySem PySem.Spec PyProof.Rows L2
/-! ### lists without repeats -/
section
variable {α : Type} [DecidableEq α]
theorem mem_dd : ∀ (l : List α) (x : α), x ∈ dd l ↔ x ∈ l
  | [], x => Iff.rfl
  | y :: l, x => by
    unfold dd
    by_cases h : y ∈ l
    · rw [if_pos h, mem_dd l x]
      refine ⟨fun z => List.mem_cons_of_mem _ z, fun z => ?_⟩
      rcases List.mem_cons.mp z with rfl | z
      · exact h
      · exact z
    · rw [if_neg h, List.mem_cons, List.mem_cons, mem_dd l x]
theorem nodup_dd : ∀ l : List α, (dd l).Nodup
  | [] => .nil
  | y :: l => by
    unfold dd
    by_cases h : y ∈ l
    · rw [if_pos h]
      exact nodup_dd l
    · rw [if_neg h]
      exact List.nodup_cons.mpr ⟨fun z => h ((mem_dd l y).mp z), nodup_dd l⟩
theorem nodup_le : ∀ (l m : List α), l.Nodup → (∀ x ∈ l, x ∈ m) → l.length ≤ m.length
  | [], m, _, _ => Nat.zero_le _
  | x :: l, m, h, k => by
    have h2 := List.nodup_cons.mp h
    have mx := k x List.mem_cons_self
    have ih := nodup_le l (m.erase x) h2.2 fun y hy => by
      have ne : y ≠ x := fun z => h2.1 (z ▸ hy)
      exact (List.mem_erase_of_ne ne).mpr (k y (List.mem_cons_of_mem _ hy))
    have := List.length_erase_of_mem mx
    have : 0 < m.length := List.length_pos_of_mem mx
    simp only [List.length_cons]
    omega
theorem nodup_len {l m : List α} (hl : l.Nodup) (hm : m.Nodup) (h : ∀ x, x ∈ l ↔ x ∈ m) : l.length = m.length :=
  Nat.le_antisymm (nodup_le l m hl fun x hx => (h x).mp hx) (nodup_le m l hm fun x hx => (h x).mpr hx)
end
/-- strictly rising lists with the same members are one -/
theorem rise_one {α : Type} (R : α → α → Prop) (ir : ∀ a, ¬ R a a) (as : ∀ a b, R a b → ¬ R b a) : ∀ {l m : List α}, l.Pairwise R → m.Pairwise R → (∀ x, x ∈ l ↔ x ∈ m) → l = m
  | [], [], _, _, _ => rfl
  | [], y :: m, _, _, h => by have := (h y).mpr List.mem_cons_self; cases this
  | x :: l, [], _, _, h => by have := (h x).mp List.mem_cons_self; cases this
  | x :: l, y :: m, hl, hm, h => by
    rw [List.pairwise_cons] at hl hm
    have exy : x = y := by
      rcases List.mem_cons.mp ((h x).mp List.mem_cons_self) with e | e
      · exact e
      · rcases List.mem_cons.mp ((h y).mpr List.mem_cons_self) with e2 | e2
        · exact e2.symm
        · exact absurd (hm.1 x e) (as _ _ (hl.1 y e2))
    subst exy
    have := rise_one R ir as hl.2 hm.2 fun z => by
      constructor
      · intro hz
        rcases List.mem_cons.mp ((h z).mp (List.mem_cons_of_mem _ hz)) with e | e
        · subst e; exact absurd (hl.1 _ hz) (ir _)
        · exact e
      · intro hz
        rcases List.mem_cons.mp ((h z).mpr (List.mem_cons_of_mem _ hz)) with e | e
        · subst e; exact absurd (hm.1 _ hz) (ir _)
        · exact e
    rw [this]
/-- sorted lists of the same things are one -/
theorem sort_perm_one {α : Type} {le : α → α → Prop} (an : ∀ a b, le a b → le b a → a = b) : ∀ {l m : List α}, l.Pairwise le → m.Pairwise le → l.Perm m → l = m
  | [], m, _, _, h => (List.nil_perm.mp h).symm
  | x :: l, [], _, _, h => absurd h.length_eq (by simp)
  | x :: l, y :: m, hl, hm, h => by
    rw [List.pairwise_cons] at hl hm
    have exy : x = y := by
      rcases List.mem_cons.mp (h.mem_iff.mp List.mem_cons_self) with e | e
      · exact e
      · rcases List.mem_cons.mp (h.mem_iff.mpr List.mem_cons_self) with e2 | e2
        · exact e2.symm
        · exact an _ _ (hl.1 y e2) (hm.1 x e)
    subst exy
    rw [sort_perm_one an hl.2 hm.2 ((List.perm_cons _).mp h)]
theorem setI_mem (l : List Int) (x : Int) : x ∈ setI l ↔ x ∈ l := by
  unfold setI
  rw [List.mem_mergeSort, mem_dd]
theorem ints_sorted (l : List Int) : (l.mergeSort fun a b => decide (a ≤ b)).Pairwise (· ≤ ·) := by
  have := List.pairwise_mergeSort (le := fun a b : Int => decide (a ≤ b)) (fun a b c h1 h2 => by simp only [decide_eq_true_eq] at *; omega) (fun a b => by simp only [Bool.or_eq_true, decide_eq_true_eq]; omega) l
  exact this.imp fun h => of_decide_eq_true h
theorem setI_rise (l : List Int) : (setI l).Pairwise (· < ·) := by
  have h1 := ints_sorted (dd l)
  have h2 : (setI l).Nodup := (List.mergeSort_perm _ _).nodup_iff.mpr (nodup_dd l)
  refine List.Pairwise.imp (R := fun a b => a ≤ b ∧ a ≠ b) (fun h => by omega) ?_
  exact List.Pairwise.and h1 h2
theorem setI_one {l m : List Int} (h : m.Pairwise (· < ·)) (k : ∀ x, x ∈ m ↔ x ∈ l) : m = setI l :=
  rise_one (fun a b : Int => a < b) (fun a h => by omega) (fun a b h1 h2 => by omega) h (setI_rise l) fun x => (k x).trans (setI_mem l x).symm
theorem srtD_ints (l : List Int) : srtD (l.map PyData.int) = (l.mergeSort fun a b => decide (a ≤ b)).map PyData.int := by
  unfold srtD
  rw [← PySem.W.sort_maps PyData.int (r := PySem.W.dataLe false PyData.int) (s := PySem.W.dataLe false id) (fun _ _ _ _ => rfl)]
  rw [show PySem.W.dataLe false PyData.int = fun a b => decide (a ≤ b) from PySem.W.dataLe_int fun i : Int => i]
theorem srtD_strs (l : List Str) : srtD (l.map PyData.str) = (l.mergeSort fun a b => decide (a.cps.toList ≤ b.cps.toList)).map PyData.str := by
  unfold srtD
  rw [← PySem.W.sort_maps PyData.str (r := PySem.W.dataLe false PyData.str) (s := PySem.W.dataLe false id) (fun _ _ _ _ => rfl)]
  rw [show PySem.W.dataLe false PyData.str = fun a b => decide (a.cps.toList ≤ b.cps.toList) from PySem.W.dataLe_str fun i : Str => i]
/-! ### dicts over the stores -/
section
variable {K : PySem.W.Frag} {cA : Nat → Addr} {c : Cf} {H : Hp} {s : Sto}
theorem valD_rep : ∀ {kvs : List (Key × D)} {ws : List (Key × V)}, RepK K c kvs ws → ∀ k : Key, (∀ d, valD kvs k = some d → ∃ v, valV ws k = some v ∧ RepV K c d v) ∧ (valD kvs k = none → valV ws k = none)
  | _, _, .nil, k => ⟨fun d h => (by cases h), fun _ => rfl⟩
  | _, _, .cons (a := p) (b := q) h t, k => by
    obtain ⟨i1, i2⟩ := valD_rep t k
    unfold valD valV
    rw [List.find?_cons, List.find?_cons, ← h.1]
    by_cases e : p.1 = k
    · rw [decide_eq_true e]
      exact ⟨fun d z => (by cases z; exact ⟨_, rfl, h.2⟩), fun z => (by cases z)⟩
    · rw [decide_eq_false e]
      exact ⟨i1, i2⟩
theorem repK_any : ∀ {kvs : List (Key × D)} {ws : List (Key × V)}, RepK K c kvs ws → ∀ k : Key, (kvs.any fun kv => decide (kv.1 = k)) = ws.any fun kv => decide (kv.1 = k)
  | _, _, .nil, k => rfl
  | _, _, .cons h t, k => by rw [List.any_cons, List.any_cons, h.1, repK_any t k]
theorem repK_append : ∀ {kvs kvs' : List (Key × D)} {ws ws' : List (Key × V)}, RepK K c kvs ws → RepK K c kvs' ws' → RepK K c (kvs ++ kvs') (ws ++ ws')
  | _, _, _, _, .nil, h => h
  | _, _, _, _, .cons a t, h => .cons a (repK_append t h)
theorem putKD_rep {kvs : List (Key × D)} {ws : List (Key × V)} {k : Key} {d : D} {v : V} (h : RepK K c kvs ws) (r : RepV K c d v) : RepK K c (putKD kvs k d) (putK ws k v) := by
  unfold putKD putK
  rw [repK_any h k]
  by_cases q : (ws.any fun kv => decide (kv.1 = k)) = true
  · rw [if_pos q, if_pos q]
    clear q
    induction h with
    | nil => exact .nil
    | cons a t ih =>
      rename_i p q _ _
      refine .cons ?_ ih
      dsimp only
      rw [← a.1]
      by_cases e : p.1 = k
      · rw [if_pos e, if_pos e]
        exact ⟨rfl, r⟩
      · rw [if_neg e, if_neg e]
        exact a
  · rw [if_neg q, if_neg q]
    exact repK_append h (.cons ⟨rfl, r⟩ .nil)
theorem mergeKD_rep {more : List (Key × D)} {mw : List (Key × V)} (h : RepK K c more mw) : ∀ {kvs : List (Key × D)} {ws : List (Key × V)}, RepK K c kvs ws → RepK K c (mergeKD kvs more) (mergeK ws mw) := by
  induction h with
  | nil => exact fun h => h
  | cons a t ih =>
    rename_i p q _ _
    intro kvs ws h
    have := ih (putKD_rep (k := p.1) h a.2)
    show RepK K c (mergeKD (putKD kvs p.1 p.2) _) (mergeK (putK ws q.1 q.2) _)
    rw [← a.1]
    exact this
theorem keyD_v {d : D} {k : Key} {v : V} (e : keyD d = some k) (h : RepV K c d v) : v = kV k := by
  unfold keyD at e
  split at e
  · cases e; cases h; rfl
  · cases e; cases h; rfl
  · cases e
theorem asD_at {d : D} {kvs : List (Key × D)} {v : V} (r : Rep K cA c H s) (e : asD s d = some kvs) (h : RepV K c d v) : ∃ n a ws, d = .o n ∧ v = .ref a ∧ c.ι[n]? = some a ∧ s[n]? = some (some (.dct kvs)) ∧ H a = some (.dK ws) ∧ c.F a = none ∧ RepK K c kvs ws := by
  cases d with
  | p d => cases e
  | s l => cases e
  | o n =>
    unfold asD at e
    dsimp only at e
    split at e
    · rename_i kvs' ec
      cases e
      obtain ⟨a, u, rfl, e2, e3, e4, e5, ws, rfl, e7⟩ := r.at ec h
      exact ⟨n, a, ws, rfl, rfl, e2, e3, e4, e5, e7⟩
    · cases e
/-- a new dict stands as a cell -/
theorem dct_new {kvs : List (Key × D)} {ws : List (Key × V)} {Q : VK} {W : Xn → Sto → Cf → Hp → Prop} (r : Rep K cA c H s) (hv : RepK K c kvs ws) (h : Post K cA c H (.ok (.o s.length) (s ++ [some (.dct kvs)])) (okQ K Q) W) : ∀ p, H p = none → Q (.ref p) (upd H p (.dK ws)) := by
  intro p hp
  obtain ⟨f1, f2⟩ := r.fresh hp
  have eg : Ext c H c (upd H p (.dK ws)) := Ext.grow hp
  have rg : Rep K cA c (upd H p (.dK ws)) s := r.grow hp
  refine h ⟨c.F, c.ι ++ [p]⟩ _ (eg.adC hp) (rg.adC upd_same f1 f2 ⟨ws, rfl, RepK.mono (eg.adC hp) hv⟩) (.ref p) ⟨p, ?_, rfl⟩
  show (c.ι ++ [p])[s.length]? = some p
  rw [List.getElem?_append_right (by rw [r.len]; exact Nat.le_refl _), r.len, Nat.sub_self]
  rfl
/-- all that is new is frozen -/
def moreF (c : Cf) (H H' : Hp) : Hp := fun a => match H a with
  | none => H' a
  | some _ => c.F a
theorem Rep.more (r : Rep K cA c H s) {H' : Hp} (e : Same H H') : Rep K cA ⟨moreF c H H', c.ι⟩ H' s ∧ Ext c H ⟨moreF c H H', c.ι⟩ H' := by
  have fs : Same c.F (moreF c H H') := fun a o q => by
    unfold moreF
    rw [r.sub a o q]
    exact q
  have x : Ext c H ⟨moreF c H H', c.ι⟩ H' := ⟨fs, List.prefix_refl _, fun a o h1 h2 h3 => ⟨e a o h1, by show moreF c H H' a = none; unfold moreF; rw [h1]; exact h2, h3⟩⟩
  refine ⟨⟨fun a o q => ?_, r.len, r.nd, fun a m z => ?_, fun n y a h1 h2 => ?_⟩, x⟩
  · have q' : moreF c H H' a = some o := q
    unfold moreF at q'
    cases z : H a with
    | none => rw [z] at q'; exact q'
    | some u => rw [z] at q'; exact e a o (r.sub a o q')
  · cases y : H a with
    | none => exact r.dom a m y
    | some u =>
      rw [e a u y] at z
      cases z
  · obtain ⟨g1, u, g2, g3⟩ := r.cell n y a h1 h2
    refine ⟨?_, u, e a u g2, g3.mono x⟩
    show moreF c H H' a = none
    unfold moreF
    rw [g2]
    exact g1
end
end G

namespace G
open PySem PySem.Spec PyProof.Rows L2
open Classical
noncomputable section
section
variable {X : Cx} {cA : Nat → Addr}
/-! ### set(xs), sorted(set(xs)), len(set(xs)) -/
def rSetL (K : PySem.W.Frag) (w : World) : List V → Hp → VK → Prop := fun xs H Q => ∃ (l : Addr) (ns : List Int), xs = [V.ref l] ∧ SqL K H l (ns.map V.int) ∧ ns.length ≤ 60 ∧ ∀ p, H p = none → Q (.ref p) (upd H p (SetO w p (fun j => decide (j ∈ ns)) (dd ns).length))
theorem cr_setL (hc : X.calm = true) : CallR X (.type "set") (rSetL X.K X.w) := by
  intro pins s σ H xs us Q I r h
  obtain ⟨l, ns, rfl, hl, hz, q⟩ := h
  rw [Vals.ref1 r]
  obtain ⟨its, rv, pl, _⟩ := I.list hl
  refine call_setL (P := X.prog) (w := X.w) (items := its.toArray) ns (I.ok.hd hc) pl.isList (by simpa using rv.ints) (by unfold scanBound; omega) fun h' tk c R hcn k => ?_
  have ec : c = (dd ns).length := by
    obtain ⟨o, es, ep, t, ho, hx, hd, g, nd, hm, hb, hf, hn, _⟩ := R
    rw [← hn]
    have e1 : (es.toList.map keyOf).length = (dd ns).length := nodup_len nd (nodup_dd ns) fun x => by rw [← hm x, mem_dd, decide_eq_true_eq]
    rw [List.length_map, Array.length_toList] at e1
    exact e1
  rw [← ec] at q
  exact ⟨.ref s.heap.objs.size, _, I.laid (a := s.heap.objs.size) (o := SetO X.w s.heap.objs.size _ c) (t' := tk) k (Nat.le_refl _) (setO_new R), rfl, q _ (I.hok.fresh (Nat.le_refl _))⟩
def rLenSet (w : World) : List V → Hp → VK → Prop := fun xs H Q => ∃ (a : Addr) (S : Int → Bool) (n : Nat), xs = [V.ref a] ∧ H a = some (SetO w a S n) ∧ n ≤ 1000 ∧ Q (.int n) H
theorem cr_lenSet : CallR X (.builtin "len") (rLenSet X.w) := by
  intro pins s σ H xs us Q I r h
  obtain ⟨a, S, n, rfl, ha, hz, q⟩ := h
  rw [Vals.ref1 r]
  obtain ⟨o, es, ep, t, ho, hx, hd, g, nd, hm, hb, hf, hn, _⟩ := setO_get I ha
  exact call_len_set ho hx hd hf (by omega) ⟨.int n, H, I.tok _, ⟨_, by rw [hn]⟩, q⟩
/-! ### the operations of the mini-language -/
theorem dq_zip {K : PySem.W.Frag} {F : Hp} : ∀ {vs : List V} {ds : List PyData}, DqAll K F vs ds → (∀ b ∈ vs.zip ds, Dq K F b.1 b.2) ∧ (vs.zip ds).map (·.1) = vs ∧ (vs.zip ds).map (·.2) = ds
  | _, _, .nil => ⟨fun b h => (by cases h), rfl, rfl⟩
  | _, _, .cons h t => by
    obtain ⟨i1, i2, i3⟩ := dq_zip t
    refine ⟨fun b hb => ?_, ?_, ?_⟩
    · rw [List.zip_cons_cons] at hb
      rcases List.mem_cons.mp hb with rfl | hb
      · exact h
      · exact i1 b hb
    · rw [List.zip_cons_cons, List.map_cons, i2]
    · rw [List.zip_cons_cons, List.map_cons, i3]
theorem dqAll_map {K : PySem.W.Frag} {F : Hp} {β : Type} {f : β → V} {g : β → PyData} : ∀ {bs : List β}, (∀ b ∈ bs, Dq K F (f b) (g b)) → DqAll K F (bs.map f) (bs.map g)
  | [], _ => .nil
  | b :: bs, h => .cons (h b List.mem_cons_self) (dqAll_map fun c hc => h c (List.mem_cons_of_mem _ hc))
theorem keysI : ∀ {ks : List Key}, (∀ k ∈ ks, ∃ i, k = .inl i) → ∃ l : List Int, ks = l.map Sum.inl
  | [], _ => ⟨[], rfl⟩
  | k :: ks, h => by
    obtain ⟨i, rfl⟩ := h k List.mem_cons_self
    obtain ⟨l, rfl⟩ := keysI fun k hk => h k (List.mem_cons_of_mem _ hk)
    exact ⟨i :: l, rfl⟩
theorem keysS : ∀ {ks : List Key}, (∀ k ∈ ks, ∃ i, k = .inr i) → ∃ l : List Str, ks = l.map Sum.inr
  | [], _ => ⟨[], rfl⟩
  | k :: ks, h => by
    obtain ⟨i, rfl⟩ := h k List.mem_cons_self
    obtain ⟨l, rfl⟩ := keysS fun k hk => h k (List.mem_cons_of_mem _ hk)
    exact ⟨i :: l, rfl⟩
theorem keys_kind {ks : List Key} (h : PySem.W.AllAlike (ks.map keyP)) : (∃ l : List Int, ks = l.map Sum.inl) ∨ ∃ l : List Str, ks = l.map Sum.inr := by
  cases ks with
  | nil => exact .inl ⟨[], rfl⟩
  | cons k ks =>
    have al : ∀ j ∈ k :: ks, PySem.W.alike (keyP k) (keyP j) = true := fun j hj => h _ (List.mem_map.mpr ⟨k, List.mem_cons_self, rfl⟩) _ (List.mem_map.mpr ⟨j, hj, rfl⟩)
    cases k with
    | inl i =>
      refine .inl (keysI fun j hj => ?_)
      have := al j hj
      cases j with
      | inl j => exact ⟨j, rfl⟩
      | inr z => simp [keyP, PySem.W.alike] at this
    | inr i =>
      refine .inr (keysS fun j hj => ?_)
      have := al j hj
      cases j with
      | inr j => exact ⟨j, rfl⟩
      | inl z => simp [keyP, PySem.W.alike] at this
theorem strs_sorted (l : List Str) : (l.mergeSort fun a b => decide (a.cps.toList ≤ b.cps.toList)).Pairwise (fun a b => a.cps.toList ≤ b.cps.toList) := by
  have := List.pairwise_mergeSort (le := fun a b : Str => decide (a.cps.toList ≤ b.cps.toList)) (fun a b c h1 h2 => by simp only [decide_eq_true_eq] at *; exact List.le_trans h1 h2) (fun a b => by simp only [Bool.or_eq_true, decide_eq_true_eq]; exact List.le_total _ _) l
  exact this.imp fun h => of_decide_eq_true h
theorem risingS_pw : ∀ {l : List Str} {p : Str}, risingS p l = true → (p :: l).Pairwise (fun a b => a.cps.toList ≤ b.cps.toList)
  | [], p, _ => List.pairwise_cons.mpr ⟨fun _ h => (by cases h), .nil⟩
  | x :: r, p, h => by
    have h' : (!ltCps x.cps.toList p.cps.toList && risingS x r) = true := h
    rw [Bool.and_eq_true, ltCps_eq, Bool.not_eq_true', decide_eq_false_iff_not] at h'
    have ih := risingS_pw h'.2
    have le1 : p.cps.toList ≤ x.cps.toList := List.not_lt.mp h'.1
    refine List.pairwise_cons.mpr ⟨fun y hy => ?_, ih⟩
    rcases List.mem_cons.mp hy with rfl | hy
    · exact le1
    · exact List.le_trans le1 ((List.pairwise_cons.mp ih).1 y hy)
theorem sortedS_pw : ∀ {l : List Str}, sortedS l = true → l.Pairwise (fun a b => a.cps.toList ≤ b.cps.toList)
  | [], _ => .nil
  | x :: r, h => risingS_pw h
theorem str_eq {a b : Str} (h : a.cps.toList = b.cps.toList) : a = b := by
  obtain ⟨⟨a⟩⟩ := a
  obtain ⟨⟨b⟩⟩ := b
  cases h
  rfl
theorem ob_sorted (hc : X.calm = true) (hu : X.A.units + 65 < cLine) (fl : Bool) : CallR X (.builtin "sorted") (rU1 X.K cA (biop .sorted fl)) := by
  refine CallR.imp (CallR.or (cr_srtL hu) (CallR.or (call_sortedDI hc) (call_sortedD hc))) ?_
  rintro _ H Q ⟨x, c, d, s, W, rfl, r, h1, h⟩
  unfold biop at h
  dsimp only at h
  split at h
  · rename_i ds e
    obtain ⟨lz, h⟩ := h.if_
    unfold srtop at h
    obtain ⟨so, h⟩ := h.if_
    obtain ⟨xs, e1, e2⟩ := Option.bind_eq_some_iff.mp e
    obtain ⟨a, vs, rfl, ha, hv⟩ := r.asL e1 h1
    have ex := allP_some e2
    subst ex
    obtain ⟨z1, z2, z3⟩ := dq_zip (dqAll_of hv)
    refine .inl ⟨a, vs.zip ds, rfl, by rw [z2]; exact SqL.of ha, fun b hb => dq_dp (dq_mono r.sub (z1 b hb)), by rw [z3]; exact so, ?_⟩
    have hv2 : RepVs X.K c ((srtD ds).map .p) ((srtB (·.2) (vs.zip ds)).map (·.1)) := by
      have := dqAll_map (F := c.F) (K := X.K) (f := fun b : V × PyData => b.1) (g := fun b => b.2) (bs := srtB (·.2) (vs.zip ds)) fun b hb => z1 b ((srtB_perm _ _).mem_iff.mp hb)
      rw [srtB_map, z3] at this
      exact repVs_of this
    exact (mkL_new r hv2 h).2
  · split at h
    · rename_i kvs e
      obtain ⟨lz, h⟩ := h.if_
      unfold srtop at h
      obtain ⟨so, h⟩ := h.if_
      obtain ⟨n, a, ws, rfl, rfl, e2, e3, e4, e5, rk⟩ := asD_at r e h1
      have fk : ∀ {kvs : List (Key × D)} {ws : List (Key × V)}, RepK X.K c kvs ws → ws.map (·.1) = kvs.map (·.1) := by
        intro kvs ws q
        induction q with
        | nil => rfl
        | cons a t ih => rw [List.map_cons, List.map_cons, ih, a.1]
      have hk := fk rk
      have so1 : PySem.W.AllAlike ((kvs.map (·.1)).map keyP) := by
        have := so.1
        rw [List.map_map]
        exact this
      have em : (kvs.map fun kv => keyP kv.1) = (kvs.map (·.1)).map keyP := by rw [List.map_map]; rfl
      rw [em] at h
      rcases keys_kind so1 with ⟨l, el⟩ | ⟨l, el⟩
      · refine .inr (.inl ⟨a, ws, l, rfl, .inl e4, by rw [hk, el], ?_, fun ys p h1 h2 hp => ?_⟩)
        · have := congrArg List.length el
          rw [List.length_map, List.length_map] at this
          omega
        · have e6 : (kvs.map (·.1)).map keyP = l.map PyData.int := by rw [el, List.map_map]; rfl
          rw [e6, srtD_ints] at h
          have e7 : ys = l.mergeSort fun a b => decide (a ≤ b) := sort_perm_one (le := fun a b : Int => a ≤ b) (fun a b h1 h2 => by omega) h2 (ints_sorted l) (h1.trans (List.mergeSort_perm _ _).symm)
          rw [← e7] at h
          refine (mkL_new r (vs := ys.map V.int) ?_ h).2 p hp
          have : ∀ ys : List Int, DqAll X.K c.F (ys.map V.int) (ys.map PyData.int) := fun ys => by
            induction ys with
            | nil => exact .nil
            | cons y ys ih => exact .cons (.int y) ih
          exact repVs_of (this ys)
      · refine .inr (.inr ⟨a, ws, l, rfl, .inl e4, by rw [hk, el], ?_, fun ys p h1 h2 hp => ?_⟩)
        · have := congrArg List.length el
          rw [List.length_map, List.length_map] at this
          omega
        · have e6 : (kvs.map (·.1)).map keyP = l.map PyData.str := by rw [el, List.map_map]; rfl
          rw [e6, srtD_strs] at h
          have e7 : ys = l.mergeSort fun a b => decide (a.cps.toList ≤ b.cps.toList) := sort_perm_one (le := fun a b : Str => a.cps.toList ≤ b.cps.toList) (fun a b h1 h2 => str_eq (List.le_antisymm h1 h2)) (sortedS_pw h2) (strs_sorted l) (h1.trans (List.mergeSort_perm _ _).symm)
          rw [← e7] at h
          refine (mkL_new r (vs := ys.map V.str) ?_ h).2 p hp
          have : ∀ ys : List Str, DqAll X.K c.F (ys.map V.str) (ys.map PyData.str) := fun ys => by
            induction ys with
            | nil => exact .nil
            | cons y ys ih => exact .cons (.str y) ih
          exact repVs_of (this ys)
    · exact h.elim
theorem pairsD_rep {K : PySem.W.Frag} {c : Cf} {H : Hp} {s : Sto} (r : Rep K cA c H s) : ∀ {xs : List D} {vs : List V} {kvs : List (Key × D)}, pairsD s xs = some kvs → RepVs K c xs vs → ∃ (ps : List Addr) (ws : List (Key × V)), vs = ps.map V.ref ∧ Paired (fun p kv => SqT K H p [kV kv.1, kv.2]) ps ws ∧ RepK K c kvs ws
  | [], _, kvs, e, .nil => by
    cases e
    exact ⟨[], [], rfl, .nil, .nil⟩
  | x :: xs, _, kvs, e, .cons h t => by
    unfold pairsD at e
    simp only [mapO] at e
    split at e
    · rename_i q qs e1 e2
      cases e
      obtain ⟨ps, ws, rfl, g1, g2⟩ := pairsD_rep r (kvs := qs) e2 t
      split at e1
      · rename_i k v et
        obtain ⟨a, us, rfl, hs, hv⟩ := r.asT et h
        cases hv with
        | cons hk hv =>
          cases hv with
          | cons hv hn =>
            cases hn
            cases ek : keyD k with
            | none => rw [ek] at e1; cases e1
            | some kk =>
              rw [ek] at e1
              cases e1
              have := keyD_v ek hk
              subst this
              exact ⟨a :: ps, (kk, _) :: ws, rfl, .cons hs g1, .cons ⟨rfl, hv⟩ g2⟩
      · cases e1
    · cases e
theorem ob_dict (hc : X.calm = true) (fl : Bool) : CallR X (.type "dict") (rU1 X.K cA (biop .dict fl)) := by
  refine CallR.imp (call_dictP hc) ?_
  rintro _ H Q ⟨x, c, d, s, W, rfl, r, h1, h⟩
  have h : Post X.K cA c H (dictop d s) (okQ X.K Q) W := h
  unfold dictop at h
  split at h
  · rename_i kvs e
    obtain ⟨xs, e1, e2⟩ := Option.bind_eq_some_iff.mp e
    obtain ⟨a, vs, rfl, ha, hv⟩ := r.asL e1 h1
    obtain ⟨ps, ws, rfl, g1, g2⟩ := pairsD_rep r e2 hv
    exact ⟨a, ps, ws, rfl, SqL.of ha, g1, dct_new r (mergeKD_rep g2 .nil) h⟩
  · exact h.elim
end
end
end G

namespace G
open PySem PySem.Spec PyProof.Rows L2
open Classical
noncomputable section
section
variable {α β : Type} {K : PySem.W.Frag} {cA : Nat → Addr} {P : Pg} {W : WX} {c : Cf} {H : Hp} {s : Sto} {e : Env} {σ : L2.St}
/-! ### readings of the mini-language -/
def tE (K : PySem.W.Frag) (cA : Nat → Addr) (P : Pg) (W : WX) (m : E) : TE := fun σ H Q => ∃ c e s, Rep K cA c H s ∧ RelE K c e σ ∧ Post K cA c H (ev P m e s) (okQ K Q) (WW K cA W σ)
def bQ (Q : Bool → Hp → Prop) : D → Sto → Cf → Hp → Prop := fun d _ _ H' => ∃ b, dBool d = some b ∧ Q b H'
def tT (K : PySem.W.Frag) (cA : Nat → Addr) (P : Pg) (W : WX) (m : E) : TT := fun σ H Q => ∃ c e s, Rep K cA c H s ∧ RelE K c e σ ∧ Post K cA c H (ev P m e s) (bQ Q) (WW K cA W σ)
def lQ (K : PySem.W.Frag) (Q : List V → Hp → Prop) : List D → Sto → Cf → Hp → Prop := fun ds _ c' H' => ∀ vs, RepVs K c' ds vs → Q vs H'
def tA (K : PySem.W.Frag) (cA : Nat → Addr) (P : Pg) (W : WX) (m : Es) : TA := fun σ H Q => ∃ c e s, Rep K cA c H s ∧ RelE K c e σ ∧ Post K cA c H (evs P m e s) (lQ K Q) (WW K cA W σ)
def tO (K : PySem.W.Frag) (cA : Nat → Addr) (P : Pg) (W : WX) (m : Eo) : TO := fun σ H Q => ∃ c e s, Rep K cA c H s ∧ RelE K c e σ ∧ Post K cA c H (evo P m e s) (fun o _ _ H' => Q o H') (WW K cA W σ)
def tC1 (K : PySem.W.Frag) (cA : Nat → Addr) (P : Pg) (W : WX) (m : Eo) : TT := fun σ H Q => ∃ c e s, Rep K cA c H s ∧ RelE K c e σ ∧ Post K cA c H (evc P m e s) (fun o _ _ H' => Q o H') (WW K cA W σ)
def ItemR (K : PySem.W.Frag) (c : Cf) : Item → V → Prop
  | .one d, v => RepV K c d v
  | .tp ds, v => ∃ T vs, v = .ref T ∧ SqT K c.F T vs ∧ RepVs K c ds vs
theorem ItemR.mono {c' : Cf} {H' : Hp} (x : Ext c H c' H') {i : Item} {v : V} (h : ItemR K c i v) : ItemR K c' i v := by
  cases i with
  | one d => exact RepV.mono x h
  | tp ds =>
    obtain ⟨T, vs, h1, h2, h3⟩ := h
    exact ⟨T, vs, h1, seqT_mono x.f h2, RepVs.mono x h3⟩
/-- an iterator that gives the items -/
def JOk (K : PySem.W.Frag) (cA : Nat → Addr) (c1 : Cf) (H1 : Hp) (J : L2.It) (items : List Item) : Prop := ∀ c H s, Same c1.F c.F → c1.ι <+: c.ι → Rep K cA c H s → ∀ i : Nat,
  (i < items.length → J.go i H) ∧ (∀ x, items[i]? = some x → ∀ v H', J.yld i H v H' → ∃ c', Ext c H c' H' ∧ Rep K cA c' H' s ∧ ItemR K c' x v) ∧ (i = items.length → J.stop i H)
def tI (K : PySem.W.Frag) (cA : Nat → Addr) (P : Pg) (W : WX) (m : It) : TI := fun σ H Q => ∃ c e s, Rep K cA c H s ∧ RelE K c e σ ∧ Post K cA c H (evi P m e s) (fun items s' c' H' => ∀ J, JOk K cA c' H' J items → Q J H') (WW K cA W σ)
def tgS : Tg → List Nat
  | .nm i => [i]
  | .tp is => is
def tG (K : PySem.W.Frag) (cA : Nat → Addr) (tg : Tg) : TG := fun v σ H Q => ∃ c e s x, Rep K cA c H s ∧ RelE K c e σ ∧ ItemR K c x v ∧ ∃ e', bindT tg x s e = some e' ∧ ∀ σ', RelE K c e' σ' → (∀ vs : List Nat, (∀ i ∈ tgS tg, i ∈ vs) → wipe σ' vs = wipe σ vs) → Q σ' H

theorem Post.bind0 {r : R α} {f : α → Sto → R β} {A : β → Sto → Cf → Hp → Prop} {W : Xn → Sto → Cf → Hp → Prop} (h : Post K cA c H (r.bind f) A W) : Post K cA c H r (fun a s' _ _ => Post K cA c H (f a s') A W) W := by
  cases r with
  | ok a s => exact fun _ _ _ _ => h
  | exc a s => exact h
  | bad => exact h
theorem tE.mono {m : E} {Q Q' : VK} (h : tE K cA P W m σ H Q) (k : ∀ v H', Q v H' → Q' v H') : tE K cA P W m σ H Q' := by
  obtain ⟨c, e, s, r, re, h⟩ := h
  exact ⟨c, e, s, r, re, h.imp (fun a s' c' H' _ _ z v hv => k _ _ (z v hv)) fun _ _ _ _ _ _ z => z⟩
theorem tT.mono {m : E} {Q Q' : Bool → Hp → Prop} (h : tT K cA P W m σ H Q) (k : ∀ v H', Q v H' → Q' v H') : tT K cA P W m σ H Q' := by
  obtain ⟨c, e, s, r, re, h⟩ := h
  exact ⟨c, e, s, r, re, h.imp (fun a s' c' H' _ _ ⟨b, z1, z2⟩ => ⟨b, z1, k _ _ z2⟩) fun _ _ _ _ _ _ z => z⟩
theorem tA.mono {m : Es} {Q Q' : List V → Hp → Prop} (h : tA K cA P W m σ H Q) (k : ∀ v H', Q v H' → Q' v H') : tA K cA P W m σ H Q' := by
  obtain ⟨c, e, s, r, re, h⟩ := h
  exact ⟨c, e, s, r, re, h.imp (fun a s' c' H' _ _ z v hv => k _ _ (z v hv)) fun _ _ _ _ _ _ z => z⟩
theorem tO.mono {m : Eo} {Q Q' : Option Int → Hp → Prop} (h : tO K cA P W m σ H Q) (k : ∀ v H', Q v H' → Q' v H') : tO K cA P W m σ H Q' := by
  obtain ⟨c, e, s, r, re, h⟩ := h
  exact ⟨c, e, s, r, re, h.imp (fun a s' c' H' _ _ z => k _ _ z) fun _ _ _ _ _ _ z => z⟩
theorem tC1.mono {m : Eo} {Q Q' : Bool → Hp → Prop} (h : tC1 K cA P W m σ H Q) (k : ∀ v H', Q v H' → Q' v H') : tC1 K cA P W m σ H Q' := by
  obtain ⟨c, e, s, r, re, h⟩ := h
  exact ⟨c, e, s, r, re, h.imp (fun a s' c' H' _ _ z => k _ _ z) fun _ _ _ _ _ _ z => z⟩
theorem tI.mono {m : It} {Q Q' : L2.It → Hp → Prop} (h : tI K cA P W m σ H Q) (k : ∀ v H', Q v H' → Q' v H') : tI K cA P W m σ H Q' := by
  obtain ⟨c, e, s, r, re, h⟩ := h
  exact ⟨c, e, s, r, re, h.imp (fun a s' c' H' _ _ z J j => k _ _ (z J j)) fun _ _ _ _ _ _ z => z⟩
variable {A : β → Sto → Cf → Hp → Prop}
theorem sub_e {m : E} {f : D → Sto → R β} {W' : Xn → Sto → Cf → Hp → Prop} (r : Rep K cA c H s) (re : RelE K c e σ) (h : Post K cA c H ((ev P m e s).bind f) A W') (hw : ∀ x s c' H', W' x s c' H' → WW K cA W σ x s c' H') :
    tE K cA P W m σ H (fun v H' => ∃ c' d s', Ext c H c' H' ∧ Rep K cA c' H' s' ∧ RelE K c' e σ ∧ RepV K c' d v ∧ Post K cA c' H' (f d s') A W') :=
  ⟨c, e, s, r, re, h.bind.imp (fun d s' c' H' x q z v hv => ⟨c', d, s', x, q, re.mono x, hv, z⟩) fun _ _ _ _ _ _ z => hw _ _ _ _ z⟩
theorem sub_a {m : Es} {f : List D → Sto → R β} {W' : Xn → Sto → Cf → Hp → Prop} (r : Rep K cA c H s) (re : RelE K c e σ) (h : Post K cA c H ((evs P m e s).bind f) A W') (hw : ∀ x s c' H', W' x s c' H' → WW K cA W σ x s c' H') :
    tA K cA P W m σ H (fun v H' => ∃ c' d s', Ext c H c' H' ∧ Rep K cA c' H' s' ∧ RelE K c' e σ ∧ RepVs K c' d v ∧ Post K cA c' H' (f d s') A W') :=
  ⟨c, e, s, r, re, h.bind.imp (fun d s' c' H' x q z v hv => ⟨c', d, s', x, q, re.mono x, hv, z⟩) fun _ _ _ _ _ _ z => hw _ _ _ _ z⟩
theorem sub_o {m : Eo} {f : Option Int → Sto → R β} {W' : Xn → Sto → Cf → Hp → Prop} (r : Rep K cA c H s) (re : RelE K c e σ) (h : Post K cA c H ((evo P m e s).bind f) A W') (hw : ∀ x s c' H', W' x s c' H' → WW K cA W σ x s c' H') :
    tO K cA P W m σ H (fun v H' => ∃ c' s', Ext c H c' H' ∧ Rep K cA c' H' s' ∧ RelE K c' e σ ∧ Post K cA c' H' (f v s') A W') :=
  ⟨c, e, s, r, re, h.bind.imp (fun d s' c' H' x q z => ⟨c', s', x, q, re.mono x, z⟩) fun _ _ _ _ _ _ z => hw _ _ _ _ z⟩
theorem sub_i {m : It} {f : List Item → Sto → R β} {W' : Xn → Sto → Cf → Hp → Prop} (r : Rep K cA c H s) (re : RelE K c e σ) (h : Post K cA c H ((evi P m e s).bind f) A W') (hw : ∀ x s c' H', W' x s c' H' → WW K cA W σ x s c' H') :
    tI K cA P W m σ H (fun J H' => ∃ c' d s', Ext c H c' H' ∧ Rep K cA c' H' s' ∧ RelE K c' e σ ∧ JOk K cA c' H' J d ∧ Post K cA c' H' (f d s') A W') :=
  ⟨c, e, s, r, re, h.bind.imp (fun d s' c' H' x q z J j => ⟨c', d, s', x, q, re.mono x, j, z⟩) fun _ _ _ _ _ _ z => hw _ _ _ _ z⟩
theorem tT_tE {m : E} {Q : Bool → Hp → Prop} (h : tT K cA P W m σ H Q) : tE K cA P W m σ H fun x H' => ∃ k, x = .bl k ∧ Q k H' := by
  obtain ⟨c, e, s, r, re, h⟩ := h
  exact ⟨c, e, s, r, re, h.imp (fun a s' c' H' _ _ ⟨b, z1, z2⟩ v hv => ⟨b, dBool_v z1 hv, z2⟩) fun _ _ _ _ _ _ z => z⟩

/-! ### iterators -/
theorem jok_one {vs : List V} {ds : List PyData} {c1 : Cf} {H1 : Hp} (hv : DqAll K c1.F vs ds) {J : L2.It} (hg : ∀ (c : Cf) (H : Hp), Same c1.F c.F → Same c.F H → ∀ i : Nat, (i < vs.length → J.go i H) ∧ (∀ v H', J.yld i H v H' → H' = H ∧ vs[i]? = some v) ∧ (i = vs.length → J.stop i H)) :
    JOk K cA c1 H1 J (ds.map fun d => .one (.p d)) := by
  intro c H s x xi r i
  obtain ⟨g1, g2, g3⟩ := hg c H x r.sub i
  have hl : vs.length = ds.length := by
    have := Paired.length (repVs_of (c := c1) hv)
    rw [List.length_map] at this
    exact this.symm
  refine ⟨fun h => g1 (by rw [List.length_map] at h; omega), fun y hy v H' hyl => ?_, fun h => g3 (by rw [List.length_map] at h; omega)⟩
  obtain ⟨rfl, e⟩ := g2 v H' hyl
  refine ⟨c, Ext.refl _ _, r, ?_⟩
  rw [List.getElem?_map] at hy
  cases q : ds[i]? with
  | none => rw [q] at hy; cases hy
  | some d =>
    rw [q] at hy
    cases hy
    obtain ⟨w, h1, h2⟩ := repVs_get (repVs_of (c := c1) hv) (i := i) (d := .p d) (by rw [List.getElem?_map, q]; rfl)
    rw [h1] at e
    cases e
    exact dq_mono x h2
theorem jok_list {a : Addr} {vs : List V} {ds : List PyData} {c1 : Cf} {H1 : Hp} (ha : c1.F a = some (.lst vs)) (hv : DqAll K c1.F vs ds) : JOk K cA c1 H1 (Itl K a) (ds.map fun d => .one (.p d)) := by
  refine jok_one hv fun c H x sub i => ?_
  have e : SqL K H a vs := SqL.of (sub a _ (x a _ ha))
  refine ⟨fun h => ⟨vs, vs[i], e, by simp [h]⟩, fun v H' y => ⟨y.1, y.2 vs e⟩, fun h => ⟨vs, e, by omega⟩⟩
theorem jok_tup {a : Addr} {vs : List V} {ds : List PyData} {c1 : Cf} {H1 : Hp} (ha : SqT K c1.F a vs) (hv : DqAll K c1.F vs ds) : JOk K cA c1 H1 (Itt K a) (ds.map fun d => .one (.p d)) := by
  refine jok_one hv fun c H x sub i => ?_
  have e : SqT K H a vs := seqT_mono (x.trans sub) ha
  refine ⟨fun h => ⟨vs, vs[i], e, by simp [h]⟩, fun v H' y => ⟨y.1, y.2 vs e⟩, fun h => ⟨vs, e, by omega⟩⟩
theorem jok_str {z : Str} {c1 : Cf} {H1 : Hp} : JOk K cA c1 H1 (Its z) (z.cps.toList.map fun c => Item.one (.p (.str ⟨#[c]⟩))) := by
  intro c H s x xi r i
  have hl : (z.cps.toList.map fun c => Item.one (.p (.str ⟨#[c]⟩))).length = z.cps.size := by rw [List.length_map, Array.length_toList]
  rw [hl]
  refine ⟨fun h => h, fun y hy v H' hyl => ?_, fun h => Nat.le_of_eq h.symm⟩
  obtain ⟨rfl, q, e1, rfl⟩ := hyl
  refine ⟨c, Ext.refl _ _, r, ?_⟩
  rw [List.getElem?_map, Array.getElem?_toList, e1] at hy
  cases hy
  exact Dq.str _
theorem jok_rng {lo : Int} {n : Nat} {c1 : Cf} {H1 : Hp} {g : Nat → Int} (hg : ∀ i : Nat, g i = lo + (i : Int)) : JOk K cA c1 H1 (Itr lo n) ((List.range n).map fun (k : Nat) => Item.one (.p (.int (g k)))) := by
  intro c H s x xi r i
  have hl : ((List.range n).map fun (k : Nat) => Item.one (.p (.int (g k)))).length = n := by rw [List.length_map, List.length_range]
  rw [hl]
  refine ⟨fun h => h, fun y hy v H' hyl => ?_, fun h => Nat.le_of_eq h.symm⟩
  obtain ⟨rfl, rfl⟩ := hyl
  refine ⟨c, Ext.refl _ _, r, ?_⟩
  rw [List.getElem?_map] at hy
  by_cases q : i < n
  · rw [List.getElem?_range q] at hy
    cases hy
    show RepV K c (.p (.int (g i))) _
    rw [hg]
    exact ok_int
  · rw [List.getElem?_eq_none (by rw [List.length_range]; omega)] at hy
    cases hy
theorem enumI_get : ∀ (xs : List D) (j i : Nat), (enumI j xs)[i]? = (xs[i]?).map fun x => .tp [.p (.int ((j + i : Nat) : Int)), x]
  | [], j, i => by simp [enumI]
  | x :: xs, j, 0 => by simp [enumI]
  | x :: xs, j, i + 1 => by
    simp only [enumI, List.getElem?_cons_succ]
    rw [enumI_get xs (j + 1) i]
    congr 1
    funext y
    have : j + 1 + i = j + (i + 1) := by omega
    rw [this]
theorem enumI_len : ∀ (xs : List D) (j : Nat), (enumI j xs).length = xs.length
  | [], _ => rfl
  | _ :: xs, j => by simp only [enumI, List.length_cons, enumI_len xs]
theorem jok_enum {a : Addr} {vs : List V} {ds : List PyData} {c1 : Cf} {H1 : Hp} (ha : c1.F a = some (.lst vs)) (hv : DqAll K c1.F vs ds) : JOk K cA c1 H1 (Ite K a) (enumI 0 (ds.map .p)) := by
  intro c H s x xi r i
  have e : SqL K H a vs := SqL.of (r.sub a _ (x a _ ha))
  have hvs := repVs_of (c := c1) hv
  have hl : (enumI 0 (ds.map D.p)).length = vs.length := by rw [enumI_len]; exact Paired.length hvs
  rw [hl]
  refine ⟨fun h => ⟨vs, vs[i], e, by simp [h]⟩, fun y hy v H' hyl => ?_, fun h => ⟨vs, e, by omega⟩⟩
  obtain ⟨T, w, rfl, hT, rfl, hw⟩ := hyl
  obtain ⟨f1, f2⟩ := r.fresh hT
  have x2 : Ext c H ⟨upd c.F T (.tup [.int (i : Nat), w]), c.ι⟩ (upd H T (.tup [.int (i : Nat), w])) := (Ext.grow hT).adF f1 hT
  refine ⟨_, x2, (r.grow hT).adF upd_same f1 f2, ?_⟩
  rw [enumI_get] at hy
  cases q : (ds.map D.p)[i]? with
  | none => rw [q] at hy; cases hy
  | some d =>
    rw [q] at hy
    cases hy
    obtain ⟨w', h1, h2⟩ := repVs_get hvs q
    rw [hw vs e] at h1
    cases h1
    have h3 : RepV K ⟨upd c.F T (.tup [.int (i : Nat), w]), c.ι⟩ d w := by
      rw [List.getElem?_map] at q
      cases q3 : ds[i]? with
      | none => rw [q3] at q; cases q
      | some d' =>
        rw [q3] at q
        cases q
        exact dq_mono (x.trans x2.f) h2
    refine ⟨T, _, rfl, SqT.of upd_same, .cons ?_ (.cons h3 .nil)⟩
    have : (0 + i : Nat) = i := Nat.zero_add i
    rw [this]
    exact ok_int

/-! ### targets -/
theorem wipe_get (σ : L2.St) : ∀ (vs : List Nat) (j : Nat), (wipe σ vs)[j]? = if j ∈ vs then (if j < σ.length then some none else none) else σ[j]?
  | [], j => by simp [wipe]
  | v :: vs, j => by
    unfold wipe
    by_cases h : j = v
    · subst h
      by_cases q : j < σ.length
      · rw [List.getElem?_set_self (by rw [wipe_length]; exact q), if_pos List.mem_cons_self, if_pos q]
      · rw [List.getElem?_eq_none (by rw [List.length_set, wipe_length]; omega), if_pos List.mem_cons_self, if_neg q]
    · rw [List.getElem?_set_ne (Ne.symm h), wipe_get σ vs j]
      by_cases m : j ∈ vs
      · rw [if_pos m, if_pos (List.mem_cons_of_mem _ m)]
      · rw [if_neg m, if_neg (by simp [h, m])]
theorem wipe_set {σ : L2.St} {i : Nat} {x : Option V} {vs : List Nat} (h : i ∈ vs) : wipe (σ.set i x) vs = wipe σ vs := by
  apply List.ext_getElem?
  intro j
  rw [wipe_get, wipe_get, List.length_set]
  by_cases m : j ∈ vs
  · rw [if_pos m, if_pos m]
  · rw [if_neg m, if_neg m]
    have : j ≠ i := fun z => m (z ▸ h)
    exact List.getElem?_set_ne (Ne.symm this)
def setSl : L2.St → List Nat → List V → L2.St
  | σ, i :: is, v :: vs => setSl (σ.set i (some v)) is vs
  | σ, _, _ => σ
theorem setSl_wipe : ∀ (is : List Nat) (vs : List V) (σ : L2.St) (ws : List Nat), (∀ i ∈ is, i ∈ ws) → wipe (setSl σ is vs) ws = wipe σ ws
  | [], _, σ, ws, _ => by unfold setSl; rfl
  | i :: is, [], σ, ws, _ => by unfold setSl; rfl
  | i :: is, v :: vs, σ, ws, h => by
    unfold setSl
    rw [setSl_wipe is vs _ ws fun j m => h j (List.mem_cons_of_mem _ m), wipe_set (h i List.mem_cons_self)]
theorem setAll_rel {c : Cf} : ∀ (is : List Nat) (ds : List D) (vs : List V) (e e' : Env) (σ : L2.St), RelE K c e σ → RepVs K c ds vs → setAll is ds e = some e' → RelE K c e' (setSl σ is vs)
  | [], [], vs, e, e', σ, re, hv, h => by
    cases h
    cases hv
    unfold setSl
    exact re
  | i :: is, d :: ds, vs, e, e', σ, re, hv, h => by
    cases hv with
    | cons h1 h2 =>
      simp only [setAll] at h
      split at h
      · unfold setSl
        exact setAll_rel is ds _ _ _ _ (re.set h1) h2 h
      · cases h
  | [], _ :: _, _, _, _, _, _, _, h => by cases h
  | _ :: _, [], _, _, _, _, _, _, h => by cases h
def tGs (is : List Nat) : TGs := fun vs σ H Q => vs.length = is.length ∧ Q (setSl σ is vs) H
end
section
variable {X : Cx} {N : List Str} {fb : Str → Bool} {cA : Nat → Addr}
/-- a local name that may be stored -/
def locB (sc : Scope) (fb : Str → Bool) (x : Str) : Bool := match sc.names.lookup x with
  | some .local => true
  | some .cell => fb x
  | _ => false
theorem locB_ok {sc : Scope} {x : Str} (h : locB sc fb x = true) : L2.Loc sc x ∧ (fb x = true ∨ sc.names.lookup x = some .local) := by
  unfold locB at h
  unfold L2.Loc
  split at h
  · rename_i e; exact ⟨.inl e, .inr e⟩
  · rename_i e; exact ⟨.inr e, .inl h⟩
  · cases h
def ckN (N : List Str) (sc : Scope) (fb : Str → Bool) (i : Nat) : Expr → Bool
  | .Name x _ => decide (N[i]? = some x) && locB sc fb x
  | _ => false
def ckNs (N : List Str) (sc : Scope) (fb : Str → Bool) : List Nat → List Expr → Bool
  | [], [] => true
  | i :: is, e :: es => ckN N sc fb i e && ckNs N sc fb is es
  | _, _ => false
def ckG (N : List Str) (sc : Scope) (fb : Str → Bool) : Tg → Expr → Bool
  | .nm i, e => ckN N sc fb i e
  | .tp is, .Tuple es _ _ => ckNs N sc fb is es
  | _, _ => false
theorem ckN_ok {i : Nat} {e : Expr} (h : ckN N X.env.scope X.fn i e = true) (hN : X.N = N) (nd : X.N.Nodup) : ∃ x pos, e = .Name x pos ∧ X.N[i]? = some x ∧ L2.Loc X.env.scope x ∧ (X.fn x = true ∨ X.env.scope.names.lookup x = some .local) := by
  unfold ckN at h
  split at h
  · rename_i x pos
    obtain ⟨h1, h2⟩ := Bool.and_eq_true_iff.mp h
    obtain ⟨h3, h4⟩ := locB_ok h2
    exact ⟨x, pos, rfl, by rw [hN]; exact of_decide_eq_true h1, h3, h4⟩
  · cases h
theorem pgs_ck : ∀ {is : List Nat} {es : List Expr}, ckNs N X.env.scope X.fn is es = true → X.N = N → X.N.Nodup → PGs X es (tGs is) ∧ (assignEach es X.env).length = is.length ∧ (assignEach es X.env).findIdx? (·.1) = none
  | [], [], _, _, _ => ⟨⟨fun pins s σ H vs us Q I r h => by
    obtain ⟨h1, h2⟩ := h
    cases vs with
    | nil => exact pgs_nil.run pins s σ H [] us Q I r ⟨rfl, h2⟩
    | cons v vs => cases h1⟩, rfl, rfl⟩
  | i :: is, e :: es, h, hN, nd => by
    obtain ⟨h1, h2⟩ := Bool.and_eq_true_iff.mp (show (ckN N X.env.scope X.fn i e && ckNs N X.env.scope X.fn is es) = true from h)
    obtain ⟨x, pos, rfl, g1, g2, g3⟩ := ckN_ok h1 hN nd
    obtain ⟨k1, k2, k3⟩ := pgs_ck h2 hN nd
    refine ⟨⟨fun pins s σ H vs us Q I r h => ?_⟩, ?_, ?_⟩
    · obtain ⟨q1, q2⟩ := h
      cases vs with
      | nil => cases q1
      | cons v vs => exact (pgs_cons (pg_name nd g1 g2 g3) k1).run pins s σ H (v :: vs) us Q I r ⟨v, vs, rfl, by simpa using q1, q2⟩
    · show (assignEach es X.env).length + 1 = is.length + 1
      rw [k2]
    · show List.findIdx? (·.1) ((false, _) :: assignEach es X.env) = none
      rw [List.findIdx?_cons, k3]
      rfl
  | [], _ :: _, h, _, _ => by cases h
  | _ :: _, [], h, _, _ => by cases h
theorem pg_ck {tg : Tg} {e : Expr} (h : ckG N X.env.scope X.fn tg e = true) (hN : X.N = N) (nd : X.N.Nodup) (hc : X.calm = true) : PG X e (tG X.K cA tg) := by
  cases tg with
  | nm i =>
    obtain ⟨x, pos, rfl, g1, g2, g3⟩ := ckN_ok h hN nd
    refine PG.imp (pg_name nd g1 g2 g3) ?_
    rintro v σ H Q ⟨c, e, s, x, r, re, hi, e', hb, k⟩
    cases x with
    | tp ds => cases hb
    | one d =>
      simp only [bindT] at hb
      split at hb
      · cases hb
        exact k _ (re.set hi) fun vs q => wipe_set (q i (by simp [tgS]))
      · cases hb
  | tp is =>
    cases e with
    | Tuple es kk pos =>
      obtain ⟨k1, k2, k3⟩ := pgs_ck h hN nd
      refine PG.imp (PG.or (pg_tup hc k1 k2 k3) (pg_lst hc k1 k2 k3)) ?_
      rintro v σ H Q ⟨c, e, s, x, r, re, hi, e', hb, k⟩
      have fin : ∀ ds vs, RepVs X.K c ds vs → is.length = ds.length → setAll is ds e = some e' → vs.length = is.length ∧ tGs is vs σ H Q := fun ds vs hv hl q => by
        have l1 := Paired.length hv
        refine ⟨by omega, by omega, k _ (setAll_rel is ds vs e e' σ re hv q) fun ws hw => setSl_wipe is vs σ ws hw⟩
      cases x with
      | tp ds =>
        obtain ⟨T, vs, rfl, h1, h2⟩ := hi
        simp only [bindT] at hb
        split at hb
        · rename_i hl
          obtain ⟨f1, f2⟩ := fin ds vs h2 hl hb
          exact .inl ⟨T, vs, rfl, seqT_mono r.sub h1, f1, f2⟩
        · cases hb
      | one d =>
        simp only [bindT] at hb
        cases q : asSq s d with
        | none => rw [q] at hb; cases hb
        | some ds =>
          rw [q] at hb
          dsimp only at hb
          split at hb
          · rename_i hl
            obtain ⟨a, vs, rfl, ha, hv⟩ := asSq_v r q hi
            obtain ⟨f1, f2⟩ := fin ds vs hv hl hb
            rcases ha with ha | ha
            · exact .inr ⟨a, vs, rfl, SqL.of ha, f1, f2⟩
            · exact .inl ⟨a, vs, rfl, ha, f1, f2⟩
          · cases hb
    | _ => cases h
end
end
end G

namespace G
open PySem PySem.Spec PyProof.Rows L2
open Classical
noncomputable section
/-! ### what is known of the text's names -/
/-- an own class: its __init__, its methods, what its instances bear -/
structure ClI where
  nm : Str
  ini : Nat
  mths : List (Str × Nat)
  flds : List Str
structure Tb where
  fns : List (Option Str × Nat)
  cls : List ClI
  gls : List Str
  fr : List Str
  exs : List (Str × Bool)
  kw : List (List Str) := []
/-- the names of a def's keyword-only parameters -/
def kwOf (T : Tb) (f : Nat) : List Str := (T.kw[f]?).getD []
/-- what stands fast of the own exception classes -/
structure ExF (K : PySem.W.Frag) (mg : Str → Option Value) (cA : Nat → Addr) (exs : List (Str × Bool)) (sb : Nat → Nat → Option Bool) : Prop where
  gl : ∀ (k : Nat) (x : Str) (b : Bool), exs[k]? = some (x, b) → mg x = some (.ref (cA k)) ∧ PySem.W.keepIn K (.ref (cA k)) = true
  ea : ∀ (k j : Nat) (b : Bool), sb k j = some b → ExA K (cA k) ∧ PySem.W.exmOne K (.ref (cA k)) (.ref (cA j)) = some b ∧ PySem.W.kitOne K (.ref (cA k)) (.ref (cA j)) = some b
  nn : ∀ (k : Nat) (b : Bool), sb k k = some b → PySem.W.kitOne K (.type "NoneType") (.ref (cA k)) = some false ∧ PySem.W.kitOne K (.ref (cA k)) (.type "ValueError") = some true
  r0 : ∀ (k : Nat) (x : Str), exs[k]? = some (x, false) → PySem.W.excIn K (cA k) He.veBase "ValueError.__new__" = true ∧ PySem.W.subIn K (.ref (cA k)) (.type "BaseException") = some true ∧ PySem.W.typeIn K (.ref (cA k)) = some (.type "type")
def spF (K : PySem.W.Frag) (cA : Nat → Addr) (P : Pg) (f n : Nat) : Sp := fun vs H Q E => ∃ c ds s, Rep K cA c H s ∧ RepVs K c ds vs ∧ ds.length = n ∧ Post K cA c H (P.Φ f ds s) (okQ K Q) (fun x _ c' H' => ∀ cls dd, XnR K cA c' x cls dd → E cls dd H')
/-- what stands fast of an own class -/
structure ClF (T : Tb) (P : Pg) (cA : Nat → Addr) (lv : Nat) (prog : Program) (w : World) (K : PySem.W.Frag) (mg : Str → Option Value) (base : Heap) (C : ClI) (a : Addr) : Prop where
  nm : mg C.nm = some (.ref a)
  cl : Cls K a
  na : ∀ f ∈ C.flds, NoAttr K a f
  ini : ∀ n, T.fns[C.ini]? = some (none, n) → ∃ f fd ps, Mk K a f ∧ FnG prog w K mg base lv f fd ps (spF K cA P C.ini n) ∧ L2.Binds K fd ps []
  mt : ∀ m f, (m, f) ∈ C.mths → ∀ n, T.fns[f]? = some (none, n) → ∃ b fd ps, Meth K a m b ∧ FnG prog w K mg base lv b fd ps (spF K cA P f n) ∧ L2.Binds K fd ps []
/-- __init__(self, wrong) takes its value by name, too -/
def KwI (K : PySem.W.Frag) (fd : FuncData) : Prop := ∀ (s : Shared) (self : Value) (ws : List Value), K.In s.heap → ws.length = ([("wrong" : Str)]).length → BindsTo s fd ⟨[self], ([("wrong" : Str)]).zip ws⟩ (([("self" : Str), "wrong"]).zip (self :: ws))
structure Gb (T : Tb) (P : Pg) (cA : Nat → Addr) (lv : Nat) (prog : Program) (w : World) (K : PySem.W.Frag) (mg : Str → Option Value) (base : Heap) : Prop where
  cl : ∀ (k : Nat) (C : ClI), T.cls[k]? = some C → ClF T P cA lv prog w K mg base C (cA (1000 + k))
  fn : ∀ (f : Nat) (x : Str) (n : Nat), T.fns[f]? = some (some x, n) → ∃ a fd ps, FnG prog w K mg base lv a fd ps (spF K cA P f n) ∧ mg x = some (.ref a) ∧ PySem.W.keepIn K (.ref a) = true ∧ (kwOf T f = [] → L2.Binds K fd ps []) ∧ L2.KBn K fd ps (n - (kwOf T f).length) (kwOf T f) (fun us ws => us ++ ws) (fun vs zs => vs ++ zs)
  gl : ∀ (i : Nat) (x : Str), T.gls[i]? = some x → ∃ u v, mg x = some u ∧ RelV v u ∧ ∀ F : Hp, Dq K F v (P.gl i)
  fr : ∀ x ∈ T.fr, mg x = none
  ex : ExF K mg cA T.exs P.sb
  ini : ∀ (k : Nat) (x : Str), T.exs[k]? = some (x, true) → OexC K (cA k) ∧ PySem.W.findIn K (.ref (cA k)) "wrong" = some none ∧ ∃ fI fd, PySem.W.findIn K (.ref (cA k)) "__init__" = some (some (.ref fI)) ∧ PySem.W.typeIn K (.ref fI) = some (.type "function") ∧ FnOk prog w K mg base (L2.CX prog w) 1 fI fd ["self", "wrong"] (spIni K) ∧ L2.Binds K fd ["self", "wrong"] [] ∧ KwI K fd
structure XC (T : Tb) (P : Pg) (cA : Nat → Addr) (lv : Nat) (X : Cx) (N : List Str) (sc : Scope) (fb : Str → Bool) (W : WX) : Prop where
  hN : X.N = N
  nd : X.N.Nodup
  sc : X.env.scope = sc
  fb : X.fn = fb
  calm : X.calm = true
  room : Room (lv + 3) X.A
  gd : X.A.guards = some []
  tk : Takes X W
  g : Gb T P cA lv X.prog X.w X.K X.mg X.base

/-! ### does the mini-text tell the text? -/
def visB (sc : Scope) (x : Str) : Bool := match sc.names.lookup x with
  | some .local => true
  | some .cell => true
  | some .free => true
  | _ => false
def glB (sc : Scope) (x : Str) : Bool := match sc.names.lookup x with
  | some .globalImplicit => true
  | _ => false
theorem visB_ok {sc : Scope} {x : Str} (h : visB sc x = true) : L2.Vis sc x := by
  unfold visB at h
  unfold L2.Vis
  split at h
  · rename_i e; exact .inl e
  · rename_i e; exact .inr (.inl e)
  · rename_i e; exact .inr (.inr e)
  · cases h
theorem glB_ok {sc : Scope} {x : Str} (h : glB sc x = true) : sc.names.lookup x = some .globalImplicit := by
  unfold glB at h
  split at h
  · assumption
  · cases h
def plainE : Expr → Bool
  | .Starred .. => false
  | .Set .. => false
  | .Slice .. => false
  | _ => true
def ckK : PyData → Const → Bool
  | .none, .none => true
  | .bool a, .bool b => a == b
  | .int a, .int b => decide (a = b)
  | .str a, .str b => decide (a = b)
  | _, _ => false
def oB : Bop → Operator → Bool
  | .add, .Add => true
  | .sub, .Sub => true
  | .mul, .Mult => true
  | .fdiv, .FloorDiv => true
  | .mod, .Mod => true
  | .pow, .Pow => true
  | _, _ => false
theorem oB_ok {a : Bop} {b : Operator} (h : oB a b = true) : b = aBop a := by
  cases a <;> cases b <;> first | rfl | cases h
def oC : Cop → CmpOp → Bool
  | .eq, .Eq => true
  | .ne, .NotEq => true
  | .lt, .Lt => true
  | .le, .LtE => true
  | .gt, .Gt => true
  | .ge, .GtE => true
  | .is_, .Is => true
  | .isn, .IsNot => true
  | .in_, .In => true
  | .nin, .NotIn => true
  | _, _ => false
theorem oC_ok {a : Cop} {b : CmpOp} (h : oC a b = true) : b = aCop a := by
  cases a <;> cases b <;> first | rfl | cases h
def restB (op : BoolOp) (y : Expr) (rest : List Expr) (pos : Pos) : Expr := match rest with
  | [] => y
  | z :: r => .BoolOp op (y :: z :: r) pos
def biN : Bi → Str
  | .len => "len"
  | .list => "list"
  | .tuple => "tuple"
  | .abs => "abs"
  | .min => "min"
  | .max => "max"
  | .int => "int"
  | .repr => "repr"
  | .all => "all"
  | .any => "any"
  | .sum => "sum"
  | .sorted => "sorted"
  | .dict => "dict"
  | .str => "str"
def biOk : Bi → Bool
  | .len => true
  | .str => true
  | .list => true
  | .tuple => true
  | .abs => true
  | .min => true
  | .max => true
  | .int => true
  | .all => true
  | .any => true
  | .sum => true
  | .repr => true
  | .sorted => true
  | .dict => true
def tyN : Ty → Str
  | .int => "int"
  | .bool => "bool"
  | .str => "str"
  | .tuple => "tuple"
  | .list => "list"
  | .dict => "dict"
  | .own _ => ""
def bltTy : Ty → Bool
  | .own _ => false
  | _ => true
def nmB : Expr → Str → Bool
  | .Name z _, x => decide (z = x)
  | _, _ => false
theorem nmB_ok {e : Expr} {x : Str} (h : nmB e x = true) : ∃ p, e = .Name x p := by
  cases e with
  | Name z p => exact ⟨p, by rw [of_decide_eq_true h]⟩
  | _ => exact Bool.noConfusion (show false = true from h)
def attB : Expr → Bool
  | .Call (.Name _ _) [] [] _ => false
  | _ => true
def ownOf (N : List Str) (ow : List Nat) : List (Str × Nat) := ow.filterMap fun i => (N[i]?).map fun x => (x, i)
def dbgB (x : Str) : Bool := !(x == ("__debug__" : Str)) && !(x == ("__classdict__" : Str)) && !decide (x = "__name__")
def isxB (T : Tb) (sc : Scope) (k : Option Nat) (z : Expr) : Bool := match k with
  | none => nmB z "ValueError" && (decide (("ValueError" : Str) ∈ T.fr) && glB sc "ValueError" && dbgB "ValueError")
  | some k => (match T.exs[k]? with
    | some (c, _) => nmB z c && (glB sc c && dbgB c)
    | none => false)
def blB (T : Tb) (sc : Scope) (x : Str) : Bool := decide (x ∈ T.fr) && glB sc x && dbgB x
def tstB : E → Bool
  | .nv => false
  | .frz _ => false
  | .ife _ _ _ => false
  | _ => true
/-- f(..), o.m(..) -/
def callN : Expr → Option (Str × List Expr)
  | .Call (.Name x _) ys [] _ => some (x, ys)
  | _ => none
def callA : Expr → Option (Expr × Str × List Expr)
  | .Call (.Attribute y m ap) ys [] cp => if ap.endLine = cp.line ∧ attB y = true then some (y, m, ys) else none
  | _ => none
theorem callN_ok {e : Expr} {x : Str} {ys : List Expr} (h : callN e = some (x, ys)) : ∃ p pos, e = .Call (.Name x p) ys [] pos := by
  unfold callN at h
  split at h
  · cases h
    exact ⟨_, _, rfl⟩
  · cases h
theorem callA_ok {e y : Expr} {m : Str} {ys : List Expr} (h : callA e = some (y, m, ys)) : ∃ ap cp, e = .Call (.Attribute y m ap) ys [] cp ∧ ap.endLine = cp.line ∧ attB y = true := by
  unfold callA at h
  split at h
  · split at h
    · rename_i hh
      cases h
      exact ⟨_, _, rfl, hh.1, hh.2⟩
    · cases h
  · cases h
variable (T : Tb) (N : List Str)
mutual
def ckE : E → Scope → (Str → Bool) → Expr → Bool
  | .nv, _, _, _ => true
  | .v i, sc, _, .Name x _ => decide (N[i]? = some x) && (visB sc x && dbgB x)
  | .k d, _, _, .Constant c _ _ => ckK d c
  | .g i, sc, _, .Name x _ => decide (T.gls[i]? = some x) && (glB sc x && dbgB x)
  | .tup es, sc, fb, .Tuple xs _ _ => ckEs es sc fb xs
  | .lst _ es, sc, fb, .List xs _ => ckEs es sc fb xs
  | .bin op _ a b, sc, fb, .BinOp x o y _ => oB op o && (ckE a sc fb x && ckE b sc fb y)
  | .neg a, sc, fb, .UnaryOp .USub x _ => ckE a sc fb x
  | .nt a, sc, fb, .UnaryOp .Not x _ => ckE a sc fb x && tstB a
  | .cmp op a b, sc, fb, .Compare x [o] [y] _ => oC op o && (ckE a sc fb x && (ckE b sc fb y && plainE y))
  | .chn o1 o2 a b c, sc, fb, .Compare x [p1, p2] [y, z] _ => (oC o1 p1 && oC o2 p2) && (ckE a sc fb x && (ckE b sc fb y && (ckE c sc fb z && plainE z)))
  | .an a b, sc, fb, .BoolOp .And (x :: y :: r) pos => (ckE a sc fb x && tstB a) && (ckE b sc fb (restB .And y r pos) && tstB b)
  | .orr a b, sc, fb, .BoolOp .Or (x :: y :: r) pos => (ckE a sc fb x && tstB a) && (ckE b sc fb (restB .Or y r pos) && tstB b)
  | .ife c a b, sc, fb, .IfExp x y z _ => (ckE c sc fb x && tstB c) && (ckE a sc fb y && ckE b sc fb z)
  | .ix a i, sc, fb, .Subscript x y _ => ckE a sc fb x && (ckE i sc fb y && plainE y)
  | .sl _ a lo hi, sc, fb, .Subscript x (.Slice l h none _) _ => ckE a sc fb x && (ckO lo sc fb l && ckO hi sc fb h)
  | .rev _ a, sc, fb, .Subscript x (.Slice none none (some (.UnaryOp .USub (.Constant (.int 1) _ _) _)) _) _ => ckE a sc fb x
  | .call f es, sc, fb, .Call (.Name x _) (y :: ys) [] _ => (match T.fns[f]? with
    | some (some z, n) => decide (z = x) && (decide (n = (y :: ys).length) && decide (kwOf T f = []))
    | _ => false) && (glB sc x && dbgB x) && ckEs es sc fb (y :: ys)
  | .call f es, sc, fb, .Call (.Name x _) [] [] _ => (match T.fns[f]? with
    | some (some z, n) => decide (z = x) && (decide (n = 0) && decide (kwOf T f = []))
    | _ => false) && (glB sc x && dbgB x) && ckEs es sc fb []
  | .callk f es zs, sc, fb, .Call (.Name x _) (y :: ys) kws _ => (match T.fns[f]? with
    | some (some z, n) => decide (z = x) && (decide (n = (y :: ys).length + kws.length) && decide (kws.map (·.arg) = (kwOf T f).map some))
    | _ => false) && (glB sc x && dbgB x) && (ckEs es sc fb (y :: ys) && ckEs zs sc fb (kws.map (·.value)))
  | .bi b _ a, sc, fb, .Call (.Name x _) [y] [] _ => biOk b && (decide (x = biN b) && blB T sc x) && (ckE a sc fb y && plainE y)
  | .isi a t, sc, fb, .Call (.Name x _) [y, z] [] _ => decide (x = "isinstance") && blB T sc x && (nmB z (tyN t) && blB T sc (tyN t) && (ckE a sc fb y && plainE y)) && bltTy t
  | .isx a k, sc, fb, .Call (.Name x _) [y, z] [] _ => decide (x = "isinstance") && blB T sc x && (isxB T sc k z && (ckE a sc fb y && plainE y))
  | .fld a f, sc, fb, .Attribute x n _ => decide (f = n) && (attB x && ckE a sc fb x)
  | .app a x, sc, fb, .Call (.Attribute y m ap) [z] [] cp => decide (m = "append") && (decide (ap.endLine = cp.line) && attB y) && (ckE a sc fb y && (ckE x sc fb z && plainE z))
  | .ins a i x, sc, fb, .Call (.Attribute y m ap) [z, u] [] cp => decide (m = "insert") && (decide (ap.endLine = cp.line) && attB y) && (ckE a sc fb y && (ckE i sc fb z && plainE z && (ckE x sc fb u && plainE u)))
  | .lc _ el ow tg it c, sc, fb, .ListComp x [⟨t, i, ifs, 0⟩] bs _ => blkC N sc bs (ownOf N ow) && (decide ((ownOf N ow).map (·.2) = ow) && (tgS tg).all (fun j => decide (j ∈ ow))) &&
      (ckI it sc fb t i && plainE i) && (ckG N (relS bs sc) (fun x => bs.names.lookup x == some .cell) tg t && (ckC c (relS bs sc) (fun x => bs.names.lookup x == some .cell) ifs && ckE el (relS bs sc) (fun x => bs.names.lookup x == some .cell) x))
  | .lck _ el ow tg a c, sc, fb, .ListComp x [⟨t, i, ifs, 0⟩] bs _ => blkC N sc bs (ownOf N ow) && (decide ((ownOf N ow).map (·.2) = ow) && (tgS tg).all (fun j => decide (j ∈ ow))) &&
      (ckE a sc fb i && plainE i) && (ckG N (relS bs sc) (fun x => bs.names.lookup x == some .cell) tg t && (ckC c (relS bs sc) (fun x => bs.names.lookup x == some .cell) ifs && ckE el (relS bs sc) (fun x => bs.names.lookup x == some .cell) x))
  | .lc2 _ el ow tg it tg2 it2 ow2 c, sc, fb, .ListComp x [⟨t, i, [], 0⟩, ⟨t2, i2, ifs, 0⟩] bs _ => blkC N sc bs (ownOf N ow) && (decide ((ownOf N ow).map (·.2) = ow) && (tgS tg).all (fun j => decide (j ∈ ow)) && ((tgS tg2).all (fun j => decide (j ∈ ow2)) && ow2.all (fun j => decide (j ∈ ow)))) &&
      (ckI it sc fb t i && plainE i) && (ckG N (relS bs sc) (fun x => bs.names.lookup x == some .cell) tg t && ((ckI it2 (relS bs sc) (fun x => bs.names.lookup x == some .cell) t2 i2 && plainE i2) && ckG N (relS bs sc) (fun x => bs.names.lookup x == some .cell) tg2 t2) && (ckC c (relS bs sc) (fun x => bs.names.lookup x == some .cell) ifs && ckE el (relS bs sc) (fun x => bs.names.lookup x == some .cell) x))
  | .frz a, sc, fb, x => ckE a sc fb x
  | .ifd k a f, sc, fb, .Attribute x n _ => decide (1000 ≤ k) && (match T.cls[k - 1000]? with
    | some C => decide (f ∈ C.flds)
    | none => false) && (decide (f = n) && (attB x && ckE a sc fb x))
  | .mk k f es, sc, fb, e => decide (1000 ≤ k) && (match callN e with
    | some (x, y :: ys) => (match T.cls[k - 1000]? with
      | some C => decide (C.nm = x) && (decide (C.ini = f) && (match T.fns[f]? with
        | some (none, n) => decide (n = (y :: ys).length + 1)
        | _ => false))
      | none => false) && (glB sc x && dbgB x) && ckEs es sc fb (y :: ys)
    | _ => false)
  | .mc k m f a es, sc, fb, e => decide (1000 ≤ k) && (match callA e with
    | some (o, n, ys) => (match T.cls[k - 1000]? with
      | some C => decide ((m, f) ∈ C.mths) && (match T.fns[f]? with
        | some (none, j) => decide (j = ys.length + 1) && decide (ys.length < 20)
        | _ => false)
      | none => false) && decide (n = m) && (ckE a sc fb o && ckEs es sc fb ys)
    | _ => false)
  | .dnew, _, _, .Dict [] [] _ => true
  | .dsp k v, sc, fb, .Dict [some k'] [v'] _ => ckE k sc fb k' && ckE v sc fb v'
  | .dix d k, sc, fb, .Subscript x y _ => ckE d sc fb x && (ckE k sc fb y && plainE y)
  | .dgt d k z, sc, fb, e => (match callA e with
    | some (y, m, [u, v]) => decide (m = "get") && (ckE d sc fb y && (ckE k sc fb u && plainE u && (ckE z sc fb v && plainE v)))
    | _ => false)
  | .din ng k d, sc, fb, .Compare x [o] [y] _ => (match ng, o with
    | false, .In => true
    | true, .NotIn => true
    | _, _ => false) && (ckE k sc fb x && (ckE d sc fb y && plainE y))
  | .sit _ d, sc, fb, e => (match callN e with
    | some (x, [z]) => decide (x = "sorted") && blB T sc x && (match callA z with
      | some (y, m, []) => decide (m = "items") && ckE d sc fb y
      | _ => false)
    | _ => false)
  | .lit _ d, sc, fb, e => (match callN e with
    | some (x, [z]) => decide (x = "list") && blB T sc x && (match callA z with
      | some (y, m, []) => decide (m = "items") && ckE d sc fb y
      | _ => false)
    | _ => false)
  | .srs _ a, sc, fb, e => (match callN e with
    | some (x, [z]) => decide (x = "sorted") && blB T sc x && (match callN z with
      | some (u, [y]) => decide (u = "set") && blB T sc u && (ckE a sc fb y && plainE y)
      | _ => false)
    | _ => false)
  | .lns a, sc, fb, e => (match callN e with
    | some (x, [z]) => decide (x = "len") && blB T sc x && (match callN z with
      | some (u, [y]) => decide (u = "set") && blB T sc u && (ckE a sc fb y && plainE y)
      | _ => false)
    | _ => false)
  | .lrg _ a, sc, fb, e => (match callN e with
    | some (x, [z]) => decide (x = "list") && blB T sc x && (match callN z with
      | some (u, [y]) => decide (u = "range") && blB T sc u && (ckE a sc fb y && plainE y)
      | _ => false)
    | _ => false)
  | .idx a x, sc, fb, e => (match callA e with
    | some (y, m, [z]) => decide (m = "index") && (ckE a sc fb y && (ckE x sc fb z && plainE z))
    | _ => false)
  | .cnt a x, sc, fb, e => (match callA e with
    | some (y, m, [z]) => decide (m = "count") && (ckE a sc fb y && (ckE x sc fb z && plainE z))
    | _ => false)
  | .up a, sc, fb, e => (match callA e with
    | some (y, m, []) => decide (m = "upper") && ckE a sc fb y
    | _ => false)
  | .clr d, sc, fb, e => (match callA e with
    | some (y, m, []) => decide (m = "clear") && ckE d sc fb y
    | _ => false)
  | .bi2 b a c, sc, fb, e => (match callN e with
    | some (x, [y, z]) => (match b with
      | .min => decide (x = "min")
      | .max => decide (x = "max")
      | _ => false) && blB T sc x && (ckE a sc fb y && plainE y && (ckE c sc fb z && plainE z))
    | _ => false)
  | .dc kx vx ow tg it c, sc, fb, .DictComp x z [⟨t, i, ifs, 0⟩] bs _ => blkC N sc bs (ownOf N ow) && (decide ((ownOf N ow).map (·.2) = ow) && (tgS tg).all (fun j => decide (j ∈ ow))) &&
      (ckI it sc fb t i && plainE i) && (ckG N (relS bs sc) (fun x => bs.names.lookup x == some .cell) tg t && (ckC c (relS bs sc) (fun x => bs.names.lookup x == some .cell) ifs && (ckE kx (relS bs sc) (fun x => bs.names.lookup x == some .cell) x && ckE vx (relS bs sc) (fun x => bs.names.lookup x == some .cell) z)))
  | _, _, _, _ => false
def ckEs : Es → Scope → (Str → Bool) → List Expr → Bool
  | .nil, _, _, [] => true
  | .cons a es, sc, fb, x :: xs => (ckE a sc fb x && plainE x) && ckEs es sc fb xs
  | _, _, _, _ => false
def ckO : Eo → Scope → (Str → Bool) → Option Expr → Bool
  | .no, _, _, none => true
  | .so a, sc, fb, some x => ckE a sc fb x
  | _, _, _, _ => false
def ckC : Eo → Scope → (Str → Bool) → List Expr → Bool
  | .no, _, _, [] => true
  | .so a, sc, fb, [x] => ckE a sc fb x && tstB a
  | _, _, _, _ => false
def ckI : It → Scope → (Str → Bool) → Expr → Expr → Bool
  | .seq a, sc, fb, _, x => ckE a sc fb x
  | .rng a, sc, fb, _, .Call (.Name x _) [y] [] _ => decide (x = "range") && blB T sc x && (ckE a sc fb y && plainE y)
  | .rng2 a b, sc, fb, _, .Call (.Name x _) [y, z] [] _ => decide (x = "range") && blB T sc x && (ckE a sc fb y && plainE y && (ckE b sc fb z && plainE z))
  | .enu a, sc, fb, .Tuple _ _ _, .Call (.Name x _) [y] [] _ => decide (x = "enumerate") && blB T sc x && (ckE a sc fb y && plainE y)
  | .dk a, sc, fb, _, x => ckE a sc fb x
  | .dit a, sc, fb, .Tuple _ _ _, e => (match callA e with
    | some (y, m, []) => decide (m = "items") && ckE a sc fb y
    | _ => false)
  | .zip a b, sc, fb, .Tuple _ _ _, e => (match callN e with
    | some (x, [y, z]) => decide (x = "zip") && blB T sc x && (ckE a sc fb y && plainE y && (ckE b sc fb z && plainE z))
    | _ => false)
  | _, _, _, _, _ => false
end
end
end G

namespace G
open PySem PySem.Spec PyProof.Rows L2
open Classical
noncomputable section
/-! ### small facts of the text -/
theorem star_cons {e : Expr} {es : List Expr} {env : PySem.Env} (h : plainE e = true) : starEach (e :: es) env = (false, eval e env) :: starEach es env := by
  cases e <;> first | rfl | exact Bool.noConfusion (show false = true from h)
theorem star_any {env : PySem.Env} {pos : Pos} : ∀ {es : List Expr}, es.all plainE = true → (backTo pos (starEach es env)).any (·.1) = false
  | [], _ => rfl
  | e :: es, h => by
    rw [List.all_cons, Bool.and_eq_true] at h
    rw [star_cons h.1]
    show (false || (backTo pos (starEach es env)).any (·.1)) = false
    rw [star_any h.2]
    rfl
theorem plain_ix {e : Expr} (h : plainE e = true) : PlainIx e := by
  intro o i
  cases e <;> first | rfl | exact Bool.noConfusion (show false = true from h)
theorem plain_set {e : Expr} {env : PySem.Env} (h : plainE e = true) : ∀ x, foldedSetIterable e env x = pure x := by
  intro x
  cases e <;> first | rfl | exact Bool.noConfusion (show false = true from h)
theorem plain_mark {e : Expr} (op : CmpOp) (h : plainE e = true) : behindInMarks op e = false := by
  cases e <;> first | rfl | exact Bool.noConfusion (show false = true from h)
theorem att_base {e : Expr} {x : Str} {env : PySem.Env} (h : attB e = true) : attributeBase e x env (eval e env) = eval e env := by
  unfold attributeBase
  split
  · exact Bool.noConfusion (show false = true from h)
  · rfl
theorem dbgB_ok {x : Str} (h : dbgB x = true) : (x == ("__debug__" : Str)) = false ∧ (x == ("__classdict__" : Str)) = false ∧ x ≠ "__name__" := by
  unfold dbgB at h
  simp only [Bool.and_eq_true, Bool.not_eq_true', decide_eq_false_iff_not] at h
  exact ⟨h.1.1, h.1.2, h.2⟩
section
variable {T : Tb} {N : List Str} {P : Pg} {cA : Nat → Addr} {lv : Nat}
theorem blB_ok {X : Cx} {sc : Scope} {fb : Str → Bool} {W : WX} {x : Str} (h : blB T sc x = true) (hX : XC T P cA lv X N sc fb W) : Gl X x ∧ X.mg x = none ∧ (x == ("__debug__" : Str)) = false ∧ x ≠ "__name__" := by
  unfold blB at h
  simp only [Bool.and_eq_true, decide_eq_true_eq] at h
  obtain ⟨⟨h1, h2⟩, h3⟩ := h
  obtain ⟨g1, g2, g3⟩ := dbgB_ok h3
  refine ⟨?_, hX.g.fr x h1, g1, g3⟩
  have e := glB_ok h2
  rw [← hX.sc] at e
  exact e
theorem glB_gl {X : Cx} {sc : Scope} {fb : Str → Bool} {W : WX} {x : Str} (h : glB sc x = true) (hX : XC T P cA lv X N sc fb W) : Gl X x := by
  have e := glB_ok h
  rw [← hX.sc] at e
  exact e
theorem ckEs_plain : ∀ {es : Es} {sc : Scope} {fb : Str → Bool} {xs : List Expr}, ckEs T N es sc fb xs = true → xs.all plainE = true
  | .nil, sc, fb, [], _ => rfl
  | .nil, sc, fb, _ :: _, h => Bool.noConfusion (show false = true from h)
  | .cons a es, sc, fb, [], h => Bool.noConfusion (show false = true from h)
  | .cons a es, sc, fb, x :: xs, h => by
    have h' : ((ckE T N a sc fb x && plainE x) && ckEs T N es sc fb xs) = true := h
    simp only [Bool.and_eq_true] at h'
    rw [List.all_cons, h'.1.2, ckEs_plain h'.2]
    rfl
theorem lens {K : PySem.W.Frag} {c : Cf} {H : Hp} {W : Xn → Sto → Cf → Hp → Prop} : ∀ {es : Es} {sc : Scope} {fb : Str → Bool} {xs : List Expr} {e : Env} {s : Sto} {A : List D → Sto → Cf → Hp → Prop}, ckEs T N es sc fb xs = true → Post K cA c H (evs P es e s) A W → Post K cA c H (evs P es e s) (fun ds s' c' H' => ds.length = xs.length ∧ A ds s' c' H') W
  | .nil, sc, fb, [], e, s, A, _, h => fun c' H' x r => ⟨rfl, h c' H' x r⟩
  | .nil, sc, fb, _ :: _, _, _, _, h, _ => Bool.noConfusion (show false = true from h)
  | .cons a es, sc, fb, [], _, _, _, h, _ => Bool.noConfusion (show false = true from h)
  | .cons a es, sc, fb, x :: xs, e, s, A, h, hp => by
    have h' : ((ckE T N a sc fb x && plainE x) && ckEs T N es sc fb xs) = true := h
    simp only [Bool.and_eq_true] at h'
    simp only [evs] at hp ⊢
    cases q : ev P a e s with
    | bad => rw [q] at hp; exact hp.elim
    | exc y s1 => rw [q] at hp; exact hp
    | ok d s1 =>
      rw [q] at hp
      have hp1 : Post K cA c H ((evs P es e s1).bind fun xs s2 => .ok (d :: xs) s2) A W := hp
      have l := lens (A := fun _ _ _ _ => True) h'.2 (hp1.bind.imp (fun _ _ _ _ _ _ _ => trivial) fun _ _ _ _ _ _ z => z)
      show Post K cA c H ((evs P es e s1).bind fun xs s2 => .ok (d :: xs) s2) _ W
      cases q2 : evs P es e s1 with
      | bad => rw [q2] at hp1; exact hp1.elim
      | exc y s1 => rw [q2] at hp1; exact hp1
      | ok ds s2 =>
        rw [q2] at hp1 l
        intro c' H' x r
        exact ⟨by
          have := (l c' H' x r).1
          simp [this], hp1 c' H' x r⟩

/-! ### readings -/
variable {K : PySem.W.Frag} {W : WX} {σ : L2.St} {H : Hp} {Q : VK}
abbrev same {α : Type} : ∀ (x : Xn) (s : Sto) (c' : Cf) (H' : Hp), WW K cA W σ x s c' H' → WW K cA W σ x s c' H' := fun _ _ _ _ z => z
theorem tE_at {m : E} {c : Cf} {e : Env} {s s1 : Sto} {d : D} {A : Sto → Cf → Hp → Prop} {Q : VK} (r : Rep K cA c H s) (re : RelE K c e σ) (q : ev P m e s = .ok d s1) (k : ∀ v H1 c1, Ext c H c1 H1 → Rep K cA c1 H1 s1 → RelE K c1 e σ → RepV K c1 d v → Q v H1) : tE K cA P W m σ H Q :=
  ⟨c, e, s, r, re, by rw [q]; exact fun c1 H1 x1 r1 v hv => k v H1 c1 x1 r1 (re.mono x1) hv⟩
theorem rd_bin {op : Bop} {fl : Bool} {a b : E} (h : tE K cA P W (.bin op fl a b) σ H Q) : tOp (rB K cA (binop op fl)) (tE K cA P W a) (tE K cA P W b) σ H Q := by
  obtain ⟨c, e, s, r, re, h⟩ := h
  simp only [ev] at h
  refine (sub_e r re h fun _ _ _ _ z => z).mono fun x H1 ⟨c1, d1, s1, x1, r1, re1, v1, h1⟩ => (sub_e r1 re1 h1 fun _ _ _ _ z => z).mono fun y H2 ⟨c2, d2, s2, x2, r2, re2, v2, h2⟩ => ?_
  exact ⟨c2, d1, d2, s2, _, r2, v1.mono x2, v2, h2⟩
theorem rd_cmp {op : Cop} {a b : E} (h : tE K cA P W (.cmp op a b) σ H Q) : tOp (rB K cA (cmpop op)) (tE K cA P W a) (tE K cA P W b) σ H Q := by
  obtain ⟨c, e, s, r, re, h⟩ := h
  simp only [ev] at h
  refine (sub_e r re h fun _ _ _ _ z => z).mono fun x H1 ⟨c1, d1, s1, x1, r1, re1, v1, h1⟩ => (sub_e r1 re1 h1 fun _ _ _ _ z => z).mono fun y H2 ⟨c2, d2, s2, x2, r2, re2, v2, h2⟩ => ?_
  exact ⟨c2, d1, d2, s2, _, r2, v1.mono x2, v2, h2⟩
theorem rd_ix {a b : E} (h : tE K cA P W (.ix a b) σ H Q) : tOp (rB K cA ixop) (tE K cA P W a) (tE K cA P W b) σ H Q := by
  obtain ⟨c, e, s, r, re, h⟩ := h
  simp only [ev] at h
  refine (sub_e r re h fun _ _ _ _ z => z).mono fun x H1 ⟨c1, d1, s1, x1, r1, re1, v1, h1⟩ => (sub_e r1 re1 h1 fun _ _ _ _ z => z).mono fun y H2 ⟨c2, d2, s2, x2, r2, re2, v2, h2⟩ => ?_
  exact ⟨c2, d1, d2, s2, _, r2, v1.mono x2, v2, h2⟩
theorem rd_chn {o1 o2 : Cop} {a b m : E} (h : tE K cA P W (.chn o1 o2 a b m) σ H Q) : tChain (rB K cA (cmpop o1)) (rB K cA (cmpop o2)) (tE K cA P W a) (tE K cA P W b) (tE K cA P W m) σ H Q := by
  obtain ⟨c, e, s, r, re, h⟩ := h
  simp only [ev] at h
  refine (sub_e r re h fun _ _ _ _ z => z).mono fun x H1 ⟨c1, d1, s1, x1, r1, re1, v1, h1⟩ => (sub_e r1 re1 h1 fun _ _ _ _ z => z).mono fun y H2 ⟨c2, d2, s2, x2, r2, re2, v2, h2⟩ => ?_
  refine ⟨c2, d1, d2, s2, _, r2, v1.mono x2, v2, h2.bind.imp (fun z s3 c3 H3 x3 r3 h3 v hv => ?_) fun _ _ _ _ _ _ z => z⟩
  obtain ⟨k, e1, h3⟩ := h3.rOr
  refine ⟨k, dBool_v e1 hv, ?_⟩
  cases k with
  | false =>
    rw [if_neg Bool.false_ne_true] at h3 ⊢
    exact h3.ok r3 _ ok_bl
  | true =>
    rw [if_pos rfl] at h3 ⊢
    refine (sub_e r3 (re2.mono x3) h3 fun _ _ _ _ z => z).mono fun y4 H4 ⟨c4, d4, s4, x4, r4, re4, v4, h4⟩ => ?_
    exact ⟨c4, d2, d4, s4, _, r4, v2.mono (x3.trans x4), v4, h4⟩
theorem rd_an {a b : E} (h : tE K cA P W (.an a b) σ H Q) : tAndV (tE K cA P W a) (tE K cA P W b) σ H Q := by
  obtain ⟨c, e, s, r, re, h⟩ := h
  simp only [ev] at h
  refine (sub_e r re h fun _ _ _ _ z => z).mono fun x H1 ⟨c1, d1, s1, x1, r1, re1, v1, h1⟩ => ?_
  obtain ⟨k, e1, h2⟩ := h1.rOr
  refine ⟨k, dBool_v e1 v1, ?_⟩
  cases k with
  | false =>
    rw [if_neg Bool.false_ne_true] at h2 ⊢
    exact h2.ok r1 _ ok_bl
  | true =>
    rw [if_pos rfl] at h2 ⊢
    exact ⟨c1, e, s1, r1, re1, h2⟩
theorem rd_orr {a b : E} (h : tE K cA P W (.orr a b) σ H Q) : tOrV (tE K cA P W a) (tE K cA P W b) σ H Q := by
  obtain ⟨c, e, s, r, re, h⟩ := h
  simp only [ev] at h
  refine (sub_e r re h fun _ _ _ _ z => z).mono fun x H1 ⟨c1, d1, s1, x1, r1, re1, v1, h1⟩ => ?_
  obtain ⟨k, e1, h2⟩ := h1.rOr
  refine ⟨k, dBool_v e1 v1, ?_⟩
  cases k with
  | false =>
    rw [if_neg Bool.false_ne_true] at h2 ⊢
    exact ⟨c1, e, s1, r1, re1, h2⟩
  | true =>
    rw [if_pos rfl] at h2 ⊢
    exact h2.ok r1 _ ok_bl
/-- what a test of a asks -/
theorem sub_t {β : Type} {m : E} {c : Cf} {s : Sto} {e : Env} {f : Bool → Sto → R β} {A : β → Sto → Cf → Hp → Prop} {W' : Xn → Sto → Cf → Hp → Prop} (r : Rep K cA c H s) (re : RelE K c e σ) (h : Post K cA c H ((ev P m e s).bind fun x s1 => rOr (dBool x) fun b => f b s1) A W') (hw : ∀ x s c' H', W' x s c' H' → WW K cA W σ x s c' H') :
    tT K cA P W m σ H (fun b H' => ∃ c' s', Ext c H c' H' ∧ Rep K cA c' H' s' ∧ RelE K c' e σ ∧ Post K cA c' H' (f b s') A W') :=
  ⟨c, e, s, r, re, h.bind.imp (fun d s' c' H' x q z => by
    obtain ⟨k, e1, z⟩ := z.rOr
    exact ⟨k, e1, c', s', x, q, re.mono x, z⟩) fun _ _ _ _ _ _ z => hw _ _ _ _ z⟩
theorem rd_ife {t a b : E} (h : tE K cA P W (.ife t a b) σ H Q) : tIf (tT K cA P W t) (tE K cA P W a) (tE K cA P W b) σ H Q := by
  obtain ⟨c, e, s, r, re, h⟩ := h
  simp only [ev] at h
  refine (sub_t r re h fun _ _ _ _ z => z).mono fun k H1 ⟨c1, s1, x1, r1, re1, h1⟩ => ?_
  cases k with
  | false =>
    rw [if_neg Bool.false_ne_true] at h1 ⊢
    exact ⟨c1, e, s1, r1, re1, h1⟩
  | true =>
    rw [if_pos rfl] at h1 ⊢
    exact ⟨c1, e, s1, r1, re1, h1⟩
theorem rd_neg {a : E} (h : tE K cA P W (.neg a) σ H Q) : tUn (rU fun i => .int (-i)) (tE K cA P W a) σ H Q := by
  obtain ⟨c, e, s, r, re, h⟩ := h
  simp only [ev] at h
  refine (sub_e r re h fun _ _ _ _ z => z).mono fun x H1 ⟨c1, d1, s1, x1, r1, re1, v1, h1⟩ => ?_
  obtain ⟨i, e1, h1⟩ := h1.rOr
  exact ⟨i, dInt_v e1 v1, h1.ok r1 _ ok_int⟩
theorem rd_nt {a : E} (h : tE K cA P W (.nt a) σ H Q) : tNotV (tE K cA P W a) σ H Q := by
  obtain ⟨c, e, s, r, re, h⟩ := h
  simp only [ev] at h
  refine (sub_e r re h fun _ _ _ _ z => z).mono fun x H1 ⟨c1, d1, s1, x1, r1, re1, v1, h1⟩ => ?_
  obtain ⟨i, e1, h1⟩ := h1.rOr
  exact ⟨i, dBool_v e1 v1, h1.ok r1 _ ok_bl⟩
theorem rd_tup {es : Es} (h : tE K cA P W (.tup es) σ H Q) : tTup (tA K cA P W es) σ H Q := by
  obtain ⟨c, e, s, r, re, h⟩ := h
  simp only [ev] at h
  refine (sub_a r re h fun _ _ _ _ z => z).mono fun vs H1 ⟨c1, d1, s1, x1, r1, re1, v1, h1⟩ => ?_
  obtain ⟨l, k⟩ := mkT_new r1 v1 h1
  exact ⟨lim_le l, k⟩
theorem rd_lst {fl : Bool} {es : Es} (h : tE K cA P W (.lst fl es) σ H Q) : tLst (tA K cA P W es) σ H Q := by
  obtain ⟨c, e, s, r, re, h⟩ := h
  simp only [ev] at h
  refine (sub_a r re h fun _ _ _ _ z => z).mono fun vs H1 ⟨c1, d1, s1, x1, r1, re1, v1, h1⟩ => ?_
  obtain ⟨l, k⟩ := mkL_new r1 v1 h1
  exact ⟨lim_le l, k⟩
theorem rd_sl {fl : Bool} {a : E} {lo hi : Eo} (h : tE K cA P W (.sl fl a lo hi) σ H Q) : tSl (rSlop K cA fl) (tE K cA P W a) (tO K cA P W lo) (tO K cA P W hi) σ H Q := by
  obtain ⟨c, e, s, r, re, h⟩ := h
  simp only [ev] at h
  refine (sub_e r re h fun _ _ _ _ z => z).mono fun x H1 ⟨c1, d1, s1, x1, r1, re1, v1, h1⟩ => (sub_o r1 re1 h1 fun _ _ _ _ z => z).mono fun l H2 ⟨c2, s2, x2, r2, re2, h2⟩ => (sub_o r2 re2 h2 fun _ _ _ _ z => z).mono fun u H3 ⟨c3, s3, x3, r3, re3, h3⟩ => ?_
  exact ⟨c3, d1, s3, _, r3, v1.mono (x2.trans x3), h3⟩
theorem rd_rev {fl : Bool} {a : E} (h : tE K cA P W (.rev fl a) σ H Q) : tRevL K (tE K cA P W a) σ H Q := by
  obtain ⟨c, e, s, r, re, h⟩ := h
  simp only [ev] at h
  refine (sub_e r re h fun _ _ _ _ z => z).mono fun x H1 ⟨c1, d1, s1, x1, r1, re1, v1, h1⟩ => ?_
  exact revop_ok r1 v1 h1
theorem rd_call {f n : Nat} {es : Es} (hn : ∀ {c : Cf} {H : Hp} {e : Env} {s : Sto} {A : List D → Sto → Cf → Hp → Prop} {W : Xn → Sto → Cf → Hp → Prop}, Post K cA c H (evs P es e s) A W → Post K cA c H (evs P es e s) (fun ds s' c' H' => ds.length = n ∧ A ds s' c' H') W) (h : tE K cA P W (.call f es) σ H Q) : tCallS (spF K cA P f n) (fun σ => WE W σ) (tA K cA P W es) σ H Q := by
  obtain ⟨c, e, s, r, re, h⟩ := h
  simp only [ev] at h
  refine ⟨c, e, s, r, re, (hn h.bind).imp (fun ds s1 c1 H1 x1 r1 z vs hv => ?_) fun _ _ _ _ _ _ z => z⟩
  exact ⟨c1, ds, s1, r1, hv, z.1, z.2⟩
theorem rd_call0 {f : Nat} {es : Es} {sc : Scope} {fb : Str → Bool} (h0 : ckEs T N es sc fb [] = true) (h : tE K cA P W (.call f es) σ H Q) : tCallS (spF K cA P f 0) (fun σ => WE W σ) tNil σ H Q := by
  cases es with
  | cons a es => exact Bool.noConfusion (show false = true from h0)
  | nil =>
    obtain ⟨c, e, s, r, re, h⟩ := h
    simp only [ev, evs, R.bind_ok] at h
    exact ⟨c, [], s, r, .nil, rfl, h⟩
theorem rd_up {a : E} (h : tE K cA P W (.up a) σ H Q) : tM0 (fun x xs H Q => ∃ a, x = .str a ∧ xs = [] ∧ a.length ≤ 5592405 ∧ Q (.str (Txt.upper a)) H) (tE K cA P W a) σ H Q := by
  obtain ⟨c, e, s, r, re, h⟩ := h
  simp only [ev] at h
  refine (sub_e r re h fun _ _ _ _ z => z).mono fun x H1 ⟨c1, d1, s1, x1, r1, re1, v1, h1⟩ => ?_
  obtain ⟨z, rfl, hz, q⟩ := upop_ok r1 v1 h1
  exact ⟨⟨z, rfl⟩, z, rfl, rfl, hz, q⟩
theorem RepVs.app {K : PySem.W.Frag} {c : Cf} : ∀ {ds es : List D} {vs us : List V}, RepVs K c ds vs → RepVs K c es us → RepVs K c (ds ++ es) (vs ++ us)
  | _, _, _, _, .nil, h => h
  | _, _, _, _, .cons r t, h => .cons r (RepVs.app t h)
theorem rd_callk {f n j : Nat} {es zs : Es} (hn : ∀ {c : Cf} {H : Hp} {e : Env} {s : Sto} {A : List D → Sto → Cf → Hp → Prop} {W : Xn → Sto → Cf → Hp → Prop}, Post K cA c H (evs P es e s) A W → Post K cA c H (evs P es e s) (fun ds s' c' H' => ds.length = n ∧ A ds s' c' H') W)
    (hj : ∀ {c : Cf} {H : Hp} {e : Env} {s : Sto} {A : List D → Sto → Cf → Hp → Prop} {W : Xn → Sto → Cf → Hp → Prop}, Post K cA c H (evs P zs e s) A W → Post K cA c H (evs P zs e s) (fun ds s' c' H' => ds.length = j ∧ A ds s' c' H') W) (h : tE K cA P W (.callk f es zs) σ H Q) : tCallKS n j (spF K cA P f (n + j)) (fun σ => WE W σ) (tA K cA P W es) (tA K cA P W zs) σ H Q := by
  obtain ⟨c, e, s, r, re, h⟩ := h
  simp only [ev] at h
  refine ⟨c, e, s, r, re, (hn h.bind).imp (fun ds s1 c1 H1 x1 r1 z vs hv => ?_) fun _ _ _ _ _ _ z => z⟩
  obtain ⟨z1, z2⟩ := z
  refine ⟨c1, e, s1, r1, re.mono x1, (hj z2.bind).imp (fun ds2 s2 c2 H2 x2 r2 y vs2 hv2 => ?_) fun _ _ _ _ _ _ z => z⟩
  obtain ⟨y1, y2⟩ := y
  refine ⟨by rw [← Paired.length hv]; exact z1, by rw [← Paired.length hv2]; exact y1, c2, ds ++ ds2, s2, r2, RepVs.app (hv.mono x2) hv2, by rw [List.length_append, z1, y1], y2⟩
theorem rd_bi {b : Bi} {fl : Bool} {a : E} (h : tE K cA P W (.bi b fl a) σ H Q) : tCB (rU1 K cA (biop b fl)) (tCons (tE K cA P W a) tNil) σ H Q := by
  obtain ⟨c, e, s, r, re, h⟩ := h
  simp only [ev] at h
  refine (sub_e r re h fun _ _ _ _ z => z).mono fun x H1 ⟨c1, d1, s1, x1, r1, re1, v1, h1⟩ => ?_
  exact ⟨x, c1, d1, s1, _, rfl, r1, v1, h1⟩
theorem rd_app {a x : E} (h : tE K cA P W (.app a x) σ H Q) : tBM K "list" (rApp K cA) (tE K cA P W a) (tCons (tE K cA P W x) tNil) σ H Q := by
  obtain ⟨c, e, s, r, re, h⟩ := h
  simp only [ev] at h
  refine (sub_e r re h fun _ _ _ _ z => z).mono fun l H1 ⟨c1, d1, s1, x1, r1, re1, v1, h1⟩ => ?_
  obtain ⟨xs, e1, h1⟩ := h1.rOr
  obtain ⟨p, vs, rfl, g1, g2⟩ := r1.asL e1 v1
  exact ⟨Or.inl ⟨rfl, vs, SqL.of g1⟩, (sub_e r1 re1 h1 fun _ _ _ _ z => z).mono fun y H2 ⟨c2, d2, s2, x2, r2, re2, v2, h2⟩ => ⟨y, c2, d1, d2, s2, _, rfl, r2, v1.mono x2, v2, h2⟩⟩
theorem rd_ins {a i x : E} (h : tE K cA P W (.ins a i x) σ H Q) : tBM K "list" (rIns K cA) (tE K cA P W a) (tCons (tE K cA P W i) (tCons (tE K cA P W x) tNil)) σ H Q := by
  obtain ⟨c, e, s, r, re, h⟩ := h
  simp only [ev] at h
  refine (sub_e r re h fun _ _ _ _ z => z).mono fun l H1 ⟨c1, d1, s1, x1, r1, re1, v1, h1⟩ => ?_
  obtain ⟨xs, e1, h1⟩ := h1.rOr
  obtain ⟨p, vs, rfl, g1, g2⟩ := r1.asL e1 v1
  exact ⟨Or.inl ⟨rfl, vs, SqL.of g1⟩, (sub_e r1 re1 h1 fun _ _ _ _ z => z).mono fun j H2 ⟨c2, d2, s2, x2, r2, re2, v2, h2⟩ => (sub_e r2 re2 h2 fun _ _ _ _ z => z).mono fun y H3 ⟨c3, d3, s3, x3, r3, re3, v3, h3⟩ =>
    ⟨j, y, c3, d1, d2, d3, s3, _, rfl, r3, v1.mono (x2.trans x3), v2.mono x3, v3, h3⟩⟩
def rIsiG (K : PySem.W.Frag) (cA : Nat → Addr) (t : Ty) : List V → Hp → VK → Prop := fun xs H Q => ∃ x c d s W, xs = [x, .ty (tyName t)] ∧ Rep K cA c H s ∧ RepV K c d x ∧ Post K cA c H (isiop s d t) (okQ K Q) W
theorem ob_isi {X : Cx} {t : Ty} (ht : ∀ k, t ≠ .own k) : CallR X (.builtin "isinstance") (rIsiG X.K cA t) := by
  refine CallR.imp call_isi ?_
  rintro _ H Q ⟨x, c, d, s, W, rfl, r, h1, h⟩
  have h' : Post X.K cA c H (bR (isiB s d t) s) (okQ X.K Q) W := by
    cases t with
    | own k => exact (ht k rfl).elim
    | _ => exact h
  obtain ⟨b, e, h'⟩ := h'.bR
  obtain ⟨u, g1, g2⟩ := tyx_of r h1 ht e
  exact ⟨x, .ty (tyName t), .type u, .type (tyName t), b, rfl, .ty _, g1, kit_ty g2, h'.ok r _ ok_bl⟩
theorem rd_isi {t : Ty} {a : E} (h : tE K cA P W (.isi a t) σ H Q) : tCB (rIsiG K cA t) (tCons (tE K cA P W a) (tCons (tC (.ty (tyName t))) tNil)) σ H Q := by
  obtain ⟨c, e, s, r, re, h⟩ := h
  simp only [ev] at h
  refine (sub_e r re h fun _ _ _ _ z => z).mono fun x H1 ⟨c1, d1, s1, x1, r1, re1, v1, h1⟩ => ?_
  exact ⟨x, c1, d1, s1, _, rfl, r1, v1, h1⟩
def tyV (cA : Nat → Addr) : Option Nat → V
  | none => .ty "ValueError"
  | some k => .ref (cA k)
def tyW (cA : Nat → Addr) : Option Nat → Value
  | none => .type "ValueError"
  | some k => .ref (cA k)
theorem ty_cls (cA : Nat → Addr) (k : Option Nat) : ClsV (tyV cA k) (tyW cA k) := by
  cases k with
  | none => exact .ty _
  | some k => exact .own _
def rIsxG (K : PySem.W.Frag) (cA : Nat → Addr) (sb : Nat → Nat → Option Bool) (k : Option Nat) : List V → Hp → VK → Prop := fun xs H Q => ∃ x c d s W, xs = [x, tyV cA k] ∧ Rep K cA c H s ∧ RepV K c d x ∧ Post K cA c H (bR (isiX sb s d k) s) (okQ K Q) W
theorem ob_isx {X : Cx} {exs : List (Str × Bool)} {sb : Nat → Nat → Option Bool} {k : Option Nat} (F : ExF X.K X.mg cA exs sb) : CallR X (.builtin "isinstance") (rIsxG X.K cA sb k) := by
  refine CallR.imp (CallR.or call_isi call_isX) ?_
  rintro _ H Q ⟨x, c, d, s, W, rfl, r, h1, h⟩
  obtain ⟨b, e, h⟩ := h.bR
  have q := h.ok r _ ok_bl
  unfold isiX at e
  split at e
  · cases h1
    cases z : sb _ _ with
    | none => rw [z] at e; cases e
    | some b' =>
      rw [z] at e
      cases e
      exact .inl ⟨.non, _, .type "NoneType", _, false, rfl, ty_cls cA (some _), .base .non, (F.nn _ _ z).1, q⟩
  · cases h1
    cases e
    exact .inl ⟨.non, _, .type "NoneType", _, false, rfl, ty_cls cA none, .base .non, kit_ty (by decide +kernel), q⟩
  · split at e
    · rename_i n k c' pl ec
      obtain ⟨a, u, rfl, e2, e3, e4, e5, dd, rfl, e7⟩ := r.at ec h1
      obtain ⟨f1, f2, f3⟩ := F.ea _ _ _ e
      refine .inr ⟨a, cA c', dd, _, _, b, rfl, e4, fun b' z => ?_, f1, ty_cls cA (some _), f3, q⟩
      cases pl with
      | none =>
        have e7 : dd = none := e7
        rw [e7] at z
        cases z
      | some p =>
        obtain ⟨b2, v, k1, k2, k3⟩ := e7
        rw [z] at k1
        cases k1
        exact ⟨_, r.sub _ _ k2⟩
    · cases e
  · split at e
    · rename_i n c' pl ec
      obtain ⟨a, u, rfl, e2, e3, e4, e5, dd, rfl, e7⟩ := r.at ec h1
      cases z : sb c' c' with
      | none => rw [z] at e; cases e
      | some b' =>
        rw [z] at e
        cases e
        obtain ⟨f1, f2, f3⟩ := F.ea _ _ _ z
        refine .inr ⟨a, cA c', dd, _, _, true, rfl, e4, fun b' z => ?_, f1, ty_cls cA none, (F.nn _ _ z).2, q⟩
        cases pl with
        | none =>
          have e7 : dd = none := e7
          rw [e7] at z
          cases z
        | some p =>
          obtain ⟨b2, v, k1, k2, k3⟩ := e7
          rw [z] at k1
          cases k1
          exact ⟨_, r.sub _ _ k2⟩
    · cases e
  · cases e
theorem rd_isx {k : Option Nat} {a : E} (h : tE K cA P W (.isx a k) σ H Q) : tCB (rIsxG K cA P.sb k) (tCons (tE K cA P W a) (tCons (tC (tyV cA k)) tNil)) σ H Q := by
  obtain ⟨c, e, s, r, re, h⟩ := h
  simp only [ev] at h
  refine (sub_e r re h fun _ _ _ _ z => z).mono fun x H1 ⟨c1, d1, s1, x1, r1, re1, v1, h1⟩ => ?_
  exact ⟨x, c1, d1, s1, _, rfl, r1, v1, h1⟩
theorem rd_fld {f : Str} {a : E} {exs : List (Str × Bool)} {mg : Str → Option Value} (F : ExF K mg cA exs P.sb) (h : tE K cA P W (.fld a f) σ H Q) : tXg K f (tE K cA P W a) σ H Q := by
  obtain ⟨c, e, s, r, re, h⟩ := h
  simp only [ev] at h
  refine (sub_e r re h fun _ _ _ _ z => z).mono fun x H1 ⟨c1, d1, s1, x1, r1, re1, v1, h1⟩ => ?_
  unfold fldop at h1
  split at h1
  · split at h1
    · rename_i c' d ec
      obtain ⟨⟨hf, hs⟩, h2⟩ := h1.if_
      obtain ⟨b', ez⟩ := Option.isSome_iff_exists.mp hs
      obtain ⟨f1, _⟩ := F.ea _ _ _ ez
      obtain ⟨a', u, rfl, e2, e3, e4, e5, dd, rfl, b, v, rfl, k2, k3⟩ := r1.at ec v1
      subst hf
      exact ⟨a', cA c', b, _, v, rfl, e4, r1.sub _ _ k2, f1.xf, f1.nw, rfl, h2.ok r1 _ k3⟩
    · exact h1.elim
  · exact h1.elim
theorem rd_frz {a : E} (h : tE K cA P W (.frz a) σ H Q) : tE K cA P W a σ H Q := by
  obtain ⟨c, e, s, r, re, h⟩ := h
  simp only [ev] at h
  refine ⟨c, e, s, r, re, h.bind.imp (fun d s1 c1 H1 x1 r1 z v hv => ?_) fun _ _ _ _ _ _ z => z⟩
  obtain ⟨q, e1, z⟩ := z.rOr
  obtain ⟨c2, f1, f2⟩ := frz_ok 8 e1 r1 hv
  exact z c2 H1 f1.e f1.r v f2
/-! ### comprehensions -/
theorem noX_post {α : Type} {c : Cf} {H : Hp} {r : R α} {A : α → Sto → Cf → Hp → Prop} {W : Xn → Sto → Cf → Hp → Prop} (h : Post K cA c H (noX r) A W) : ∀ W', Post K cA c H r A W' := by
  intro W'
  cases r with
  | ok a s => exact h
  | exc x s => exact h.elim
  | bad => exact h.elim
/-- a list that stands apart is written -/
theorem Rep.side {c : Cf} {s : Sto} (r : Rep K cA c H s) {D : Addr} {u : HO} (h1 : c.F D = none) (h2 : D ∉ c.ι) : Rep K cA c (upd H D u) s := by
  refine ⟨fun a o q => ?_, r.len, r.nd, fun a m => ?_, fun n x a g1 g2 => ?_⟩
  · rw [upd_ne (ne_of_none q h1)]
    exact r.sub a o q
  · have ne : a ≠ D := fun z => h2 (by rw [← z]; exact m)
    rw [upd_ne ne]
    exact r.dom a m
  · obtain ⟨k1, u', k2, k3⟩ := r.cell n x a g1 g2
    refine ⟨k1, u', ?_, k3⟩
    rw [upd_ne (fun z => h2 (by rw [← z]; exact List.mem_of_getElem? g2))]
    exact k2
theorem Ext.side {c c1 : Cf} {H1 : Hp} (x : Ext c1 H1 c H) {D : Addr} {u : HO} (h : H1 D = none) : Ext c1 H1 c (upd H D u) :=
  ⟨x.f, x.i, fun a o g1 g2 g3 => by
    obtain ⟨k1, k2, k3⟩ := x.k a o g1 g2 g3
    refine ⟨?_, k2, k3⟩
    rw [upd_ne (ne_of_none g1 h)]
    exact k1⟩
/-- .. and taken in -/
theorem mkL_adopt {c c1 : Cf} {H1 : Hp} {s : Sto} {fl : Bool} {xs : List D} {vs : List V} {D : Addr} {W : Xn → Sto → Cf → Hp → Prop} (x : Ext c1 H1 c H) (r : Rep K cA c H s) (hD : H D = some (.lst vs)) (hF : c.F D = none) (hi : D ∉ c.ι) (h0 : H1 D = none) (hv : RepVs K c xs vs) (h : Post K cA c1 H1 (mkL fl xs s) (okQ K Q) W) : Q (.ref D) H := by
  unfold mkL at h
  obtain ⟨hl, h⟩ := h.if_
  have cellC : Post K cA c1 H1 (.ok (.o s.length) (s ++ [some (.lst xs)])) (okQ K Q) W → Q (.ref D) H := fun h => by
    have hv2 : RepVs K ⟨c.F, c.ι ++ [D]⟩ xs vs := RepVs.mono (c := c) (c' := ⟨c.F, c.ι ++ [D]⟩) (H := fun _ => none) (H' := H) ⟨Same.refl _, List.prefix_append _ _, fun a o z => by cases z⟩ hv
    refine h ⟨c.F, c.ι ++ [D]⟩ _ (x.adC h0) (r.adC hD hF hi ⟨vs, rfl, hv2⟩) (.ref D) ⟨D, ?_, rfl⟩
    show (c.ι ++ [D])[s.length]? = some D
    rw [List.getElem?_append_right (by rw [r.len]; exact Nat.le_refl _), r.len, Nat.sub_self]
    rfl
  cases fl with
  | true => exact cellC h
  | false =>
    cases e : allP xs with
    | none =>
      rw [e] at h
      exact cellC h
    | some ds =>
      rw [e] at h
      have ex := allP_some e
      subst ex
      have hv2 : RepVs K ⟨upd c.F D (.lst vs), c.ι⟩ (ds.map .p) vs := RepVs.mono (c := c) (c' := ⟨upd c.F D (.lst vs), c.ι⟩) (H := fun _ => none) (H' := H) ⟨fun a o q => by
        show upd c.F D (.lst vs) a = some o
        rw [upd_ne (ne_of_none q hF)]
        exact q, List.prefix_refl _, fun a o z => by cases z⟩ hv
      exact h ⟨upd c.F D (.lst vs), c.ι⟩ _ (x.adF hF h0) (r.adF hD hF hi) (.ref D) (.lst upd_same (dqAll_of hv2))
theorem wipe_wipe (σ : L2.St) (vs : List Nat) : wipe (wipe σ vs) vs = wipe σ vs := by
  apply List.ext_getElem?
  intro j
  rw [wipe_get, wipe_get, wipe_length]
  by_cases m : j ∈ vs
  · simp [m]
  · simp [m]
/-- the state of such a loop: D the list so far, apart -/
def LcW (K : PySem.W.Frag) (cA : Nat → Addr) (n : Nat) (c1 : Cf) (H1 : Hp) (D : Addr) (rest : Nat → List G.D → Sto → Prop) (i m : Nat) (H : Hp) : Prop := m = n - i ∧ i ≤ n ∧ ∃ (c : Cf) (s : Sto) (acc : List V) (dacc : List G.D), Ext c1 H1 c H ∧ Rep K cA c H s ∧ H D = some (.lst acc) ∧ c.F D = none ∧ D ∉ c.ι ∧ RepVs K c dacc acc ∧ dacc.length ≤ i ∧ rest i dacc s
theorem rd_lc {fl : Bool} {el : E} {ow : List Nat} {tg : Tg} {it : It} {q : Eo} (hs : ∀ i ∈ tgS tg, i ∈ ow) (h : tE K cA P W (.lc fl el ow tg it q) σ H Q) :
    tLc (tI K cA P W it) (tG K cA tg) (tC1 K cA P (fun _ _ _ _ => False) q) (tE K cA P (fun _ _ _ _ => False) el) ow σ H Q := by
  obtain ⟨c, e, s, r, re, h⟩ := h
  simp only [ev] at h
  refine (sub_i r re h fun _ _ _ _ z => z).mono fun J H1 ⟨c1, items, s1, x1, r1, re1, j1, h1⟩ => ?_
  intro D hD
  obtain ⟨f1, f2⟩ := r1.fresh hD
  by_cases lim : items.length ≤ LIM
  case neg => rw [if_pos lim] at h1; exact h1.elim
  rw [if_neg (fun z => z lim)] at h1
  refine ⟨LcW K cA items.length c1 H1 D fun i dacc s => Post K cA c1 H1 ((lcL (fun x s2 => noX (rOr (bindT tg x s2 (wipeE e ow)) fun e2 => (evc P q e2 s2).bind fun k s3 => if k = true then (ev P el e2 s3).bind fun y s4 => .ok (some y) s4 else .ok none s3)) (items.drop i) s).bind fun ys s2 => mkL fl (dacc ++ ys) s2) (okQ K Q) (WW K cA W σ), ⟨items.length, rfl, Nat.zero_le _, c1, s1, [], [], Ext.grow hD, r1.grow hD, upd_same, f1, f2, .nil, Nat.le_refl _, h1⟩, ?_⟩
  rintro i m H3 ⟨rfl, hi, c3, s3, acc, dacc, x3, r3, d3, g1, g2, hv, hl, h3⟩
  obtain ⟨j2, j3, j4⟩ := j1 c3 H3 s3 x3.f x3.i r3 i
  by_cases hlt : i < items.length
  · refine .inr ⟨j2 hlt, LcW K cA items.length c1 H1 D (fun i dacc s => Post K cA c1 H1 ((lcL (fun x s2 => noX (rOr (bindT tg x s2 (wipeE e ow)) fun e2 => (evc P q e2 s2).bind fun k s3 => if k = true then (ev P el e2 s3).bind fun y s4 => .ok (some y) s4 else .ok none s3)) (items.drop i) s).bind fun ys s2 => mkL fl (dacc ++ ys) s2) (okQ K Q) (WW K cA W σ)) (i + 1) (items.length - (i + 1)), fun H' z => ⟨_, by omega, z⟩, fun v H' hy => ?_⟩
    rw [List.drop_eq_getElem_cons hlt] at h3
    simp only [lcL, R.bind_assoc] at h3
    obtain ⟨c4, x4, r4, v4⟩ := j3 items[i] (List.getElem?_eq_getElem hlt) v H' hy
    have hf := noX_post h3.bind0 (fun _ _ _ _ => False)
    obtain ⟨e2, eb, hf⟩ := hf.rOr
    refine ⟨c4, wipeE e ow, s3, items[i], r4, RelE.wipe (re1.mono (x3.trans x4)) ow, v4, e2, eb, fun σ2 re2 wp => ⟨(wp ow hs).trans (wipe_wipe σ ow), ?_⟩⟩
    refine ⟨c4, e2, s3, r4, re2, (hf.bind0.mono (x3.trans x4)).imp (fun b s5 c5 H5 x5 r5 z => ?_) fun _ _ _ _ _ _ z => z.elim⟩
    have x5' := x3.trans (x4.trans x5)
    cases b with
    | false =>
      rw [if_neg Bool.false_ne_true] at z
      refine iteF ?_
      obtain ⟨k1, k2, k3⟩ := (x4.trans x5).k D _ d3 g1 g2
      have h5 := z c5 H5 x5' r5
      exact ⟨rfl, hlt, c5, s5, acc, dacc, x5', r5, k1, k2, k3, hv.mono (x4.trans x5), Nat.le_succ_of_le hl, h5⟩
    | true =>
      rw [if_pos rfl] at z
      refine iteT ?_
      refine ⟨c5, e2, s5, r5, re2.mono x5, (z.bind0.mono x5').imp (fun d s6 c6 H6 x6 r6 z6 y hy => ?_) fun _ _ _ _ _ _ z => z.elim⟩
      have x6' := x5'.trans x6
      obtain ⟨k1, k2, k3⟩ := (x4.trans (x5.trans x6)).k D _ d3 g1 g2
      have h6 := z6 c6 H6 x6' r6
      refine ⟨acc, k1, ?_, rfl, hlt, c6, s6, acc ++ [y], dacc ++ [d], x6'.side hD, r6.side k2 k3, upd_same, k2, k3, repVs_append (hv.mono (x4.trans (x5.trans x6))) (.cons hy .nil), ?_, ?_⟩
      · rw [← Paired.length hv]
        exact lim_lt (by omega)
      · rw [List.length_append, List.length_singleton]
        omega
      · have e3 : ∀ ys : List G.D, (dacc ++ [d]) ++ ys = dacc ++ (d :: ys) := fun ys => by simp
        simp only [e3]
        exact h6
  · have ei : i = items.length := by omega
    subst ei
    rw [List.drop_length] at h3
    have h4 : Post K cA c1 H1 (mkL fl (dacc ++ []) s3) (okQ K Q) (WW K cA W σ) := h3
    rw [List.append_nil] at h4
    exact .inl ⟨j4 rfl, mkL_adopt x3 r3 d3 g1 g2 hD hv h4⟩
theorem keepC_post {α : Type} {c : Cf} {H : Hp} {s : Sto} {n : Nat} {ys : List G.D} {r : R α} {A : α → Sto → Cf → Hp → Prop} {W : Xn → Sto → Cf → Hp → Prop} (h : Post K cA c H (keepC s n ys r) A W) : cel s n = some (.lst ys) ∧ Post K cA c H r A W := by
  unfold keepC at h
  by_cases q : cel s n = some (.lst ys)
  · rw [if_pos q] at h
    exact ⟨q, h⟩
  · rw [if_neg q] at h
    exact h.elim
theorem rd_lck {fl : Bool} {el : E} {ow : List Nat} {tg : Tg} {a : E} {q : Eo} (hs : ∀ i ∈ tgS tg, i ∈ ow) (h : tE K cA P W (.lck fl el ow tg a q) σ H Q) :
    tLc (iList K (tE K cA P W a)) (tG K cA tg) (tC1 K cA P (fun _ _ _ _ => False) q) (tE K cA P (fun _ _ _ _ => False) el) ow σ H Q := by
  obtain ⟨c, e, s0, r, re, h⟩ := h
  simp only [ev] at h
  cases q0 : ev P a e s0 with
  | bad => rw [q0] at h; exact h.elim
  | exc y s1 =>
    refine ⟨c, e, s0, r, re, ?_⟩
    rw [q0] at h ⊢
    exact h
  | ok d s =>
  rw [q0] at h
  simp only [G.R.bind_ok] at h
  cases d with
  | p d => exact h.elim
  | s l => exact h.elim
  | o n =>
  dsimp only at h
  split at h
  case h_2 => exact h.elim
  rename_i ys ec
  refine tE_at (A := fun _ _ _ => True) r re q0 fun v H1 c1 x1 r1 re1 v1 => ?_
  obtain ⟨b, u, rfl, i1, i2, i3, i4, vs, rfl, hv⟩ := r1.at ec v1
  refine ⟨b, rfl, ⟨vs, SqL.of i3⟩, ?_⟩
  intro D hD
  obtain ⟨f1, f2⟩ := r1.fresh hD
  have h1 := h.mono x1
  by_cases lim : ys.length ≤ LIM
  case neg => rw [if_pos lim] at h1; exact h1.elim
  rw [if_neg (fun z => z lim)] at h1
  -- the cell, still the same
  have at_ : ∀ {c3 : Cf} {H3 : Hp} {s3 : Sto}, Ext c1 H1 c3 H3 → Rep K cA c3 H3 s3 → cel s3 n = some (.lst ys) → ∃ vs3, H3 b = some (.lst vs3) ∧ RepVs K c3 ys vs3 := by
    intro c3 H3 s3 x3 r3 e3
    have hb : c3.ι[n]? = some b := by
      obtain ⟨t, ht⟩ := x3.i
      rw [← ht, List.getElem?_append_left (List.getElem?_eq_some_iff.mp i1).1]
      exact i1
    obtain ⟨b', u', hb', k1, k2, k3, k4, vs3, rfl, hv3⟩ := r3.at e3 (⟨b, hb, rfl⟩ : RepV K c3 (.o n) (.ref b))
    injection hb' with hb'
    subst hb'
    exact ⟨vs3, k3, hv3⟩
  have ln : (ys.map Item.one).length = ys.length := List.length_map ..
  refine ⟨LcW K cA ys.length c1 H1 D fun i dacc s => Post K cA c1 H1 ((lcL (fun x s2 => noX (keepC s2 n ys (rOr (bindT tg x s2 (wipeE e ow)) fun e2 => (evc P q e2 s2).bind fun k s3 => if k = true then (ev P el e2 s3).bind fun y s4 => .ok (some y) s4 else .ok none s3))) ((ys.map Item.one).drop i) s).bind fun zs s2 => keepC s2 n ys (mkL fl (dacc ++ zs) s2)) (okQ K Q) (WW K cA W σ), ⟨ys.length, rfl, Nat.zero_le _, c1, s, [], [], Ext.grow hD, r1.grow hD, upd_same, f1, f2, .nil, Nat.le_refl _, h1⟩, ?_⟩
  rintro i m H3 ⟨rfl, hi, c3, s3, acc, dacc, x3, r3, d3, g1, g2, hv, hl, h3⟩
  by_cases hlt : i < ys.length
  · rw [List.drop_eq_getElem_cons (by rw [ln]; exact hlt)] at h3
    simp only [lcL, R.bind_assoc] at h3
    have hf := noX_post h3.bind0 (fun _ _ _ _ => False)
    obtain ⟨e3, hf⟩ := keepC_post hf
    obtain ⟨vs3, b3, hv3⟩ := at_ x3 r3 e3
    have sq : SqL K H3 b vs3 := SqL.of b3
    have l3 := Paired.length hv3
    refine .inr ⟨⟨vs3, vs3[i], sq, by simp⟩, LcW K cA ys.length c1 H1 D (fun i dacc s => Post K cA c1 H1 ((lcL (fun x s2 => noX (keepC s2 n ys (rOr (bindT tg x s2 (wipeE e ow)) fun e2 => (evc P q e2 s2).bind fun k s3 => if k = true then (ev P el e2 s3).bind fun y s4 => .ok (some y) s4 else .ok none s3))) ((ys.map Item.one).drop i) s).bind fun zs s2 => keepC s2 n ys (mkL fl (dacc ++ zs) s2)) (okQ K Q) (WW K cA W σ)) (i + 1) (ys.length - (i + 1)), fun H' z => ⟨_, by omega, z⟩, fun v H' hy => ?_⟩
    obtain ⟨rfl, hw⟩ := hy
    obtain ⟨d, e4, e5⟩ := paired_at hv3 (hw vs3 sq)
    have ed : (ys.map Item.one)[i]'(by rw [ln]; exact hlt) = Item.one d := by
      have := List.getElem?_map (f := Item.one) (l := ys) (i := i)
      rw [e4, List.getElem?_eq_getElem (by rw [ln]; exact hlt)] at this
      injection this
    obtain ⟨e2, eb, hf⟩ := hf.rOr
    refine ⟨c3, wipeE e ow, s3, (ys.map Item.one)[i]'(by rw [ln]; exact hlt), r3, RelE.wipe (re1.mono x3) ow, by rw [ed]; exact e5, e2, eb, fun σ2 re2 wp => ⟨(wp ow hs).trans (wipe_wipe σ ow), ?_⟩⟩
    refine ⟨c3, e2, s3, r3, re2, (hf.bind0.mono x3).imp (fun b2 s5 c5 H5 x5 r5 z => ?_) fun _ _ _ _ _ _ z => z.elim⟩
    have x5' := x3.trans x5
    cases b2 with
    | false =>
      rw [if_neg Bool.false_ne_true] at z
      refine iteF ?_
      obtain ⟨k1, k2, k3⟩ := x5.k D _ d3 g1 g2
      have h5 := z c5 H5 x5' r5
      exact ⟨rfl, hlt, c5, s5, acc, dacc, x5', r5, k1, k2, k3, hv.mono x5, Nat.le_succ_of_le hl, h5⟩
    | true =>
      rw [if_pos rfl] at z
      refine iteT ?_
      refine ⟨c5, e2, s5, r5, re2.mono x5, (z.bind0.mono x5').imp (fun d s6 c6 H6 x6 r6 z6 y hy => ?_) fun _ _ _ _ _ _ z => z.elim⟩
      have x6' := x5'.trans x6
      obtain ⟨k1, k2, k3⟩ := (x5.trans x6).k D _ d3 g1 g2
      have h6 := z6 c6 H6 x6' r6
      refine ⟨acc, k1, ?_, rfl, hlt, c6, s6, acc ++ [y], dacc ++ [d], x6'.side hD, r6.side k2 k3, upd_same, k2, k3, repVs_append (hv.mono (x5.trans x6)) (.cons hy .nil), ?_, ?_⟩
      · rw [← Paired.length hv]
        exact lim_lt (by omega)
      · rw [List.length_append, List.length_singleton]
        omega
      · have e3 : ∀ ys : List G.D, (dacc ++ [d]) ++ ys = dacc ++ (d :: ys) := fun ys => by simp
        simp only [e3]
        exact h6
  · have ei : i = ys.length := by omega
    subst ei
    rw [List.drop_of_length_le (by rw [ln]; exact Nat.le_refl _)] at h3
    have h4 : Post K cA c1 H1 (keepC s3 n ys (mkL fl (dacc ++ []) s3)) (okQ K Q) (WW K cA W σ) := h3
    rw [List.append_nil] at h4
    obtain ⟨e3, h4⟩ := keepC_post h4
    obtain ⟨vs3, b3, hv3⟩ := at_ x3 r3 e3
    exact .inl ⟨⟨vs3, SqL.of b3, by rw [Paired.length hv3]; exact Nat.le_refl _⟩, mkL_adopt x3 r3 d3 g1 g2 hD hv h4⟩
/-! ### two loops -/
def LcX (K : PySem.W.Frag) (cA : Nat → Addr) (n : Nat) (b : Nat → Nat) (c1 : Cf) (H1 : Hp) (D : Addr) (rest : Nat → List G.D → Sto → Cf → Prop) (i m : Nat) (H : Hp) : Prop := m = n - i ∧ i ≤ n ∧ ∃ (c : Cf) (s : Sto) (acc : List V) (dacc : List G.D), Ext c1 H1 c H ∧ Rep K cA c H s ∧ H D = some (.lst acc) ∧ c.F D = none ∧ D ∉ c.ι ∧ RepVs K c dacc acc ∧ dacc.length ≤ b i ∧ rest i dacc s c
theorem rd_lc2 {fl : Bool} {el : E} {ow ow2 : List Nat} {tg tg2 : Tg} {it it2 : It} {q : Eo} (hs : ∀ i ∈ tgS tg, i ∈ ow) (hs2 : ∀ i ∈ tgS tg2, i ∈ ow2) (h : tE K cA P W (.lc2 fl el ow tg it tg2 it2 ow2 q) σ H Q) :
    tLc2 (tI K cA P W it) (tG K cA tg) (tC1 K cA P (fun _ _ _ _ => False) .no) (tI K cA P (fun _ _ _ _ => False) it2) (tG K cA tg2) (tC1 K cA P (fun _ _ _ _ => False) q) (tE K cA P (fun _ _ _ _ => False) el) ow ow2 σ H Q := by
  obtain ⟨c, e, s, r, re, h⟩ := h
  simp only [ev] at h
  refine (sub_i r re h fun _ _ _ _ z => z).mono fun J H1 ⟨c1, items, s1, x1, r1, re1, j1, h1⟩ => ?_
  intro D hD
  obtain ⟨f1, f2⟩ := r1.fresh hD
  by_cases lim : items.length ≤ 1000
  case neg => rw [if_pos lim] at h1; exact h1.elim
  rw [if_neg (fun z => z lim)] at h1
  generalize hg : (fun (e2 : Env) (y : Item) (s4 : Sto) => noX (rOr (bindT tg2 y s4 (wipeE e2 ow2)) fun e3 => (evc P q e3 s4).bind fun k s5 => if k = true then (ev P el e3 s5).bind fun y s6 => .ok (some y) s6 else .ok none s5)) = g at h1
  have hg' : ∀ e2 y s4, g e2 y s4 = noX (rOr (bindT tg2 y s4 (wipeE e2 ow2)) fun e3 => (evc P q e3 s4).bind fun k s5 => if k = true then (ev P el e3 s5).bind fun y s6 => .ok (some y) s6 else .ok none s5) := fun e2 y s4 => by rw [← hg]
  have hg2 : ∀ e2, (fun (y : Item) (s4 : Sto) => noX (rOr (bindT tg2 y s4 (wipeE e2 ow2)) fun e3 => (evc P q e3 s4).bind fun k s5 => if k = true then (ev P el e3 s5).bind fun y s6 => .ok (some y) s6 else .ok none s5)) = g e2 := fun e2 => by
    funext y s4
    exact (hg' e2 y s4).symm
  simp only [hg2] at h1
  generalize hf : (fun (x : Item) (s2 : Sto) => noX (rOr (bindT tg x s2 (wipeE e ow)) fun e2 => (evi P it2 e2 s2).bind fun ys s3 => if ¬ ys.length ≤ 1000 then (.bad : R (List G.D)) else lcL (g e2) ys s3)) = f at h1
  have hf' : ∀ x s2, f x s2 = noX (rOr (bindT tg x s2 (wipeE e ow)) fun e2 => (evi P it2 e2 s2).bind fun ys s3 => if ¬ ys.length ≤ 1000 then (.bad : R (List G.D)) else lcL (g e2) ys s3) := fun x s2 => by rw [← hf]
  let rest : Nat → List G.D → Sto → Cf → Prop := fun i dacc s _ => Post K cA c1 H1 ((lcF f (items.drop i) s).bind fun ys s2 => mkL fl (dacc ++ ys) s2) (okQ K Q) (WW K cA W σ)
  refine ⟨LcX K cA items.length (fun i => i * 1000) c1 H1 D rest, ⟨items.length, rfl, Nat.zero_le _, c1, s1, [], [], Ext.grow hD, r1.grow hD, upd_same, f1, f2, .nil, Nat.le_refl _, h1⟩, ?_⟩
  rintro i m H3 ⟨rfl, hi, c3, s3, acc, dacc, x3, r3, d3, g1, g2, hv, hl, h3⟩
  obtain ⟨j2, j3, j4⟩ := j1 c3 H3 s3 x3.f x3.i r3 i
  have h3 : Post K cA c1 H1 ((lcF f (items.drop i) s3).bind fun ys s2 => mkL fl (dacc ++ ys) s2) (okQ K Q) (WW K cA W σ) := h3
  by_cases hlt : i < items.length
  · refine .inr ⟨j2 hlt, LcX K cA items.length (fun i => i * 1000) c1 H1 D rest (i + 1) (items.length - (i + 1)), fun H' z => ⟨_, by omega, z⟩, fun v H' hy => ?_⟩
    rw [List.drop_eq_getElem_cons hlt] at h3
    simp only [lcF, R.bind_assoc] at h3
    obtain ⟨c4, x4, r4, v4⟩ := j3 items[i] (List.getElem?_eq_getElem hlt) v H' hy
    have h3' := h3.bind0
    rw [hf'] at h3'
    have hq := noX_post h3' (fun _ _ _ _ => False)
    obtain ⟨e2, eb, hq⟩ := hq.rOr
    refine ⟨c4, wipeE e ow, s3, items[i], r4, RelE.wipe (re1.mono (x3.trans x4)) ow, v4, e2, eb, fun σ2 re2 wp => ⟨(wp ow hs).trans (wipe_wipe σ ow), ?_⟩⟩
    refine ⟨c4, e2, s3, r4, re2, fun c5 H5 x5 r5 => iteT ?_⟩
    have x5' := x3.trans (x4.trans x5)
    refine ⟨c5, e2, s3, r5, re2.mono x5, (hq.bind0.mono x5').imp (fun items1 s6 c6 H6 x6 r6 z J1 j1' => ?_) fun _ _ _ _ _ _ z => z.elim⟩
    have x6' := x5'.trans x6
    by_cases lim1 : items1.length ≤ 1000
    case neg => rw [if_pos lim1] at z; exact z.elim
    rw [if_neg (fun z => z lim1)] at z
    obtain ⟨k1, k2, k3⟩ := (x4.trans (x5.trans x6)).k D _ d3 g1 g2
    let A1 : List G.D → List G.D → Sto → Cf → Hp → Prop := fun dacc r s' _ _ => Post K cA c1 H1 ((lcF f (items.drop (i + 1)) s').bind fun ys s2 => mkL fl (dacc ++ (r ++ ys)) s2) (okQ K Q) (WW K cA W σ)
    let rest1 : Nat → List G.D → Sto → Cf → Prop := fun j dacc s c => Same c6.F c.F ∧ c6.ι <+: c.ι ∧ Post K cA c1 H1 (lcL (g e2) (items1.drop j) s) (A1 dacc) (fun _ _ _ _ => False)
    have z0 : rest1 0 dacc s6 c6 := by
      have z' : Post K cA c1 H1 (lcL (g e2) items1 s6) (A1 dacc) (fun _ _ _ _ => False) := z
      exact ⟨Same.refl _, List.prefix_refl _, z'⟩
    refine ⟨LcX K cA items1.length (fun j => i * 1000 + j) c1 H1 D rest1, ⟨items1.length, rfl, Nat.zero_le _, c6, s6, acc, dacc, x6', r6, k1, k2, k3, hv.mono (x4.trans (x5.trans x6)), hl, z0⟩, ?_⟩
    rintro j n H7 ⟨rfl, hj, c7, s7, acc7, dacc7, x7, r7, d7, g71, g72, hv7, hl7, sm7, pf7, h7⟩
    obtain ⟨q2, q3, q4⟩ := j1' c7 H7 s7 sm7 pf7 r7 j
    have h7 : Post K cA c1 H1 (lcL (g e2) (items1.drop j) s7) (A1 dacc7) (fun _ _ _ _ => False) := h7
    by_cases jlt : j < items1.length
    · refine .inr ⟨q2 jlt, LcX K cA items1.length (fun j => i * 1000 + j) c1 H1 D rest1 (j + 1) (items1.length - (j + 1)), fun H' z => ⟨_, by omega, z⟩, fun v1 H8 hy1 => ?_⟩
      obtain ⟨c8, x8, r8, v8⟩ := q3 items1[j] (List.getElem?_eq_getElem jlt) v1 H8 hy1
      rw [List.drop_eq_getElem_cons jlt] at h7
      simp only [lcL] at h7
      have h7' := h7.bind0
      rw [hg'] at h7'
      have hp := noX_post h7' (fun _ _ _ _ => False)
      obtain ⟨e3, eb3, hp⟩ := hp.rOr
      have re25 := re2.mono (x5.trans x6)
      have x18 := x7.trans x8
      -- the slots as they stand at this turn
      have x0 : Ext c6 (fun _ => none) c8 H8 := ⟨sm7.trans x8.f, pf7.trans x8.i, fun a o z => by cases z⟩
      have re28 : RelE K c8 (wipeE e2 ow2) (wipe σ2 ow2) := RelE.wipe (re25.mono x0) ow2
      refine ⟨c8, wipeE e2 ow2, s7, items1[j], r8, re28, v8, e3, eb3, fun σ3 re3 wp3 => ⟨(wp3 ow2 hs2).trans (wipe_wipe σ2 ow2), ?_⟩⟩
      refine ⟨c8, e3, s7, r8, re3, (hp.bind0.mono x18).imp (fun b s9 c9 H9 x9 r9 z => ?_) fun _ _ _ _ _ _ z => z.elim⟩
      have x9' := x18.trans x9
      have x79 := x8.trans x9
      cases b with
      | false =>
        rw [if_neg Bool.false_ne_true] at z
        refine iteF ?_
        obtain ⟨k1, k2, k3⟩ := x79.k D _ d7 g71 g72
        have h9 := z c9 H9 x9' r9
        refine ⟨rfl, jlt, c9, s9, acc7, dacc7, x9', r9, k1, k2, k3, hv7.mono x79, Nat.le_succ_of_le hl7, sm7.trans x79.f, pf7.trans x79.i, ?_⟩
        exact h9.bind0.imp (fun zs s10 c10 H10 x10 r10 y => y c10 H10 x10 r10) fun _ _ _ _ _ _ y => y
      | true =>
        rw [if_pos rfl] at z
        refine iteT ?_
        refine ⟨c9, e3, s9, r9, re3.mono x9, (z.bind0.mono x9').imp (fun d s10 c10 H10 x10 r10 z10 y hy => ?_) fun _ _ _ _ _ _ z => z.elim⟩
        have x10' := x9'.trans x10
        have x7a := x79.trans x10
        obtain ⟨k1, k2, k3⟩ := x7a.k D _ d7 g71 g72
        have h10 := z10 c10 H10 x10' r10
        have hl7' : dacc7.length ≤ i * 1000 + j := hl7
        refine ⟨acc7, k1, ?_, rfl, jlt, c10, s10, acc7 ++ [y], dacc7 ++ [d], x10'.side hD, r10.side k2 k3, upd_same, k2, k3, repVs_append (hv7.mono x7a) (.cons hy .nil), ?_, sm7.trans x7a.f, pf7.trans x7a.i, ?_⟩
        · rw [← Paired.length hv7]
          have : LIM = 1000000 := rfl
          exact lim_lt (by omega)
        · show (dacc7 ++ [d]).length ≤ i * 1000 + (j + 1)
          rw [List.length_append, List.length_singleton]
          omega
        · have e3 : ∀ (zs ys : List G.D), (dacc7 ++ [d]) ++ (zs ++ ys) = dacc7 ++ ((d :: zs) ++ ys) := fun zs ys => by simp
          refine h10.bind0.imp (fun zs s11 c11 H11 x11 r11 y => ?_) fun _ _ _ _ _ _ y => y
          have y2 := y c11 H11 x11 r11
          show Post K cA c1 H1 ((lcF f (items.drop (i + 1)) s11).bind fun ys s2 => mkL fl ((dacc7 ++ [d]) ++ (zs ++ ys)) s2) (okQ K Q) (WW K cA W σ)
          simp only [e3]
          exact y2
    · have ej : j = items1.length := by omega
      subst ej
      rw [List.drop_length] at h7
      have h8 : A1 dacc7 [] s7 c7 H7 := h7 c7 H7 x7 r7
      refine .inl ⟨q4 rfl, rfl, hlt, c7, s7, acc7, dacc7, x7, r7, d7, g71, g72, hv7, ?_, h8⟩
      have hl7' : dacc7.length ≤ i * 1000 + items1.length := hl7
      show dacc7.length ≤ (i + 1) * 1000
      omega
  · have ei : i = items.length := by omega
    subst ei
    rw [List.drop_length] at h3
    have h4 : Post K cA c1 H1 (mkL fl (dacc ++ []) s3) (okQ K Q) (WW K cA W σ) := h3
    rw [List.append_nil] at h4
    exact .inl ⟨j4 rfl, mkL_adopt x3 r3 d3 g1 g2 hD hv h4⟩
end
end
end G

namespace G
open PySem PySem.Spec PyProof.Rows L2
open Classical
noncomputable section
section
variable {T : Tb} {N : List Str} {P : Pg} {cA : Nat → Addr} {lv : Nat}
variable {K : PySem.W.Frag} {W : WX} {σ : L2.St} {H : Hp} {Q : VK}
/-! ### readings of dicts -/
theorem rd_dix {d k : E} (h : tE K cA P W (.dix d k) σ H Q) : tDGet (tE K cA P W d) (tE K cA P W k) σ H Q := by
  obtain ⟨c, e, s, r, re, h⟩ := h
  simp only [ev] at h
  refine (sub_e r re h fun _ _ _ _ z => z).mono fun x H1 ⟨c1, d1, s1, x1, r1, re1, v1, h1⟩ => (sub_e r1 re1 h1 fun _ _ _ _ z => z).mono fun y H2 ⟨c2, d2, s2, x2, r2, re2, v2, h2⟩ => ?_
  unfold dixop at h2
  split at h2
  · rename_i kvs q e1 e2
    split at h2
    · rename_i v ev
      obtain ⟨n, a, ws, rfl, rfl, i1, i2, i3, i4, rk⟩ := asD_at r2 e1 (v1.mono x2)
      have ek := keyD_v e2 v2
      subst ek
      obtain ⟨u, u1, u2⟩ := (valD_rep rk q).1 _ ev
      exact ⟨a, u, rfl, by rw [← u1]; exact DGet.k i3, h2.ok r2 u u2⟩
    · exact h2.elim
  · exact h2.elim
theorem rd_dsp {k v : E} (h : tE K cA P W (.dsp k v) σ H Q) : tDisp [(tE K cA P W k, tE K cA P W v)] σ H Q := by
  obtain ⟨c, e, s, r, re, h⟩ := h
  simp only [ev] at h
  intro p hp
  obtain ⟨f1, f2⟩ := r.fresh hp
  have eg : Ext c H c (upd H p (.dK [])) := Ext.grow hp
  have rg : Rep K cA c (upd H p (.dK [])) s := r.grow hp
  have r0 : Rep K cA ⟨c.F, c.ι ++ [p]⟩ (upd H p (.dK [])) (s ++ [some (.dct [])]) := rg.adC upd_same f1 f2 ⟨[], rfl, .nil⟩
  have x0 : Ext c H ⟨c.F, c.ι ++ [p]⟩ (upd H p (.dK [])) := eg.adC hp
  have v0 : RepV K ⟨c.F, c.ι ++ [p]⟩ (.o s.length) (.ref p) := by
    refine ⟨p, ?_, rfl⟩
    show (c.ι ++ [p])[s.length]? = some p
    rw [List.getElem?_append_right (by rw [r.len]; exact Nat.le_refl _), r.len, Nat.sub_self]
    rfl
  refine (sub_e r0 (re.mono x0) (h.mono x0) fun _ _ _ _ z => z).mono fun x H1 ⟨c1, d1, s1, x1, r1, re1, v1, h1⟩ => (sub_e r1 re1 h1 fun _ _ _ _ z => z).mono fun y H2 ⟨c2, d2, s2, x2, r2, re2, v2, h2⟩ => ?_
  split at h2
  · rename_i q e1 e2
    obtain ⟨n, a, ws, en, ea, i1, i2, i3, i4, rk⟩ := asD_at r2 e1 (v0.mono (x1.trans x2))
    cases en
    cases ea
    have ek := keyD_v e2 (v1.mono x2)
    subst ek
    cases rk
    refine ⟨i3, [(q, y)], rfl, by show 1 ≤ 15; decide, ?_⟩
    refine h2 c2 _ (Ext.wr r2 i1) (r2.wr i2 i1 ⟨[(q, y)], rfl, .cons ⟨rfl, v2⟩ .nil⟩) (.ref p) ⟨p, i1, rfl⟩
  · exact h2.elim
theorem rd_dgt {d k z : E} (h : tE K cA P W (.dgt d k z) σ H Q) : tDGet2 (tE K cA P W d) (tE K cA P W k) (tE K cA P W z) σ H Q := by
  obtain ⟨c, e, s, r, re, h⟩ := h
  simp only [ev] at h
  refine (sub_e r re h fun _ _ _ _ z => z).mono fun x H1 ⟨c1, d1, s1, x1, r1, re1, v1, h1⟩ => ?_
  obtain ⟨kvs0, e0, h1⟩ := h1.rOr
  obtain ⟨n0, a0, ws0, rfl, rfl, j1, j2, j3, j4, rk0⟩ := asD_at r1 e0 v1
  refine ⟨a0, rfl, .inl ⟨_, .inl j3⟩, (sub_e r1 re1 h1 fun _ _ _ _ z => z).mono fun y H2 ⟨c2, d2, s2, x2, r2, re2, v2, h2⟩ => (sub_e r2 re2 h2 fun _ _ _ _ z => z).mono fun w H3 ⟨c3, d3, s3, x3, r3, re3, v3, h3⟩ => ?_⟩
  unfold dgtop at h3
  split at h3
  · rename_i kvs q e1 e2
    obtain ⟨n, a, ws, e4, e5, i1, i2, i3, i4, rk⟩ := asD_at r3 e1 (v1.mono (x2.trans x3))
    cases e5
    have ek := keyD_v e2 (v2.mono x3)
    subst ek
    obtain ⟨g1, g2⟩ := valD_rep rk q
    refine ⟨valV ws q, DGet.k i3, ?_⟩
    cases ev : valD kvs q with
    | none =>
      rw [ev] at h3
      rw [g2 ev]
      exact h3.ok r3 w v3
    | some d =>
      rw [ev] at h3
      obtain ⟨u, u1, u2⟩ := g1 d ev
      rw [u1]
      exact h3.ok r3 u u2
  · exact h3.elim
theorem valD_some {c : Cf} {kvs : List (Key × D)} {ws : List (Key × V)} (rk : RepK K c kvs ws) (q : Key) : (valV ws q).isSome = (valD kvs q).isSome := by
  obtain ⟨g1, g2⟩ := valD_rep rk q
  cases ev : valD kvs q with
  | none => rw [g2 ev]; rfl
  | some d => obtain ⟨u, u1, u2⟩ := g1 d ev; rw [u1]; rfl
theorem rd_din {k d : E} (h : tE K cA P W (.din false k d) σ H Q) : tDIn (tE K cA P W k) (tE K cA P W d) σ H Q := by
  obtain ⟨c, e, s, r, re, h⟩ := h
  simp only [ev] at h
  refine (sub_e r re h fun _ _ _ _ z => z).mono fun y H1 ⟨c1, d1, s1, x1, r1, re1, v1, h1⟩ => (sub_e r1 re1 h1 fun _ _ _ _ z => z).mono fun x H2 ⟨c2, d2, s2, x2, r2, re2, v2, h2⟩ => ?_
  unfold dinop at h2
  split at h2
  · rename_i kvs q e1 e2
    obtain ⟨n, a, ws, rfl, rfl, i1, i2, i3, i4, rk⟩ := asD_at r2 e1 v2
    have ek := keyD_v e2 (v1.mono x2)
    subst ek
    rw [if_neg Bool.false_ne_true] at h2
    refine ⟨a, valV ws q, rfl, DGet.k i3, ?_⟩
    rw [valD_some rk]
    exact h2.ok r2 _ ok_bl
  · exact h2.elim
theorem rd_dni {k d : E} (h : tE K cA P W (.din true k d) σ H Q) : tDNotIn (tE K cA P W k) (tE K cA P W d) σ H Q := by
  obtain ⟨c, e, s, r, re, h⟩ := h
  simp only [ev] at h
  refine (sub_e r re h fun _ _ _ _ z => z).mono fun y H1 ⟨c1, d1, s1, x1, r1, re1, v1, h1⟩ => (sub_e r1 re1 h1 fun _ _ _ _ z => z).mono fun x H2 ⟨c2, d2, s2, x2, r2, re2, v2, h2⟩ => ?_
  unfold dinop at h2
  split at h2
  · rename_i kvs q e1 e2
    obtain ⟨n, a, ws, rfl, rfl, i1, i2, i3, i4, rk⟩ := asD_at r2 e1 v2
    have ek := keyD_v e2 (v1.mono x2)
    subst ek
    rw [if_pos rfl] at h2
    refine ⟨a, valV ws q, rfl, DGet.k i3, ?_⟩
    rw [valD_some rk]
    exact h2.ok r2 _ ok_bl
  · exact h2.elim
theorem rd_dnew (h : tE K cA P W .dnew σ H Q) : tDNewK σ H Q := by
  obtain ⟨c, e, s, r, re, h⟩ := h
  simp only [ev] at h
  exact dct_new r .nil h
/-! ### d.items() told as a list -/
theorem valsP_rep {c : Cf} {F : Hp} : ∀ {kvs : List (Key × D)} {kd : List (Key × PyData)} {ws : List (Key × V)}, valsP kvs = some kd → RepK K c kvs ws → (∀ b ∈ ws.zip (kd.map (·.2)), Dq K c.F b.1.2 b.2) ∧ (ws.zip (kd.map (·.2))).map (·.1) = ws ∧ (ws.zip (kd.map (·.2))).map itB = kd.map itemP ∧ kd.length = kvs.length
  | [], kd, _, h, .nil => by
    cases h
    exact ⟨fun b hb => (by cases hb), rfl, rfl, rfl⟩
  | kv :: kvs, kd, _, h, .cons (b := w) (l₂ := ws) a t => by
    unfold valsP at h
    simp only [mapO] at h
    split at h
    · rename_i y ys e1 e2
      cases h
      obtain ⟨i1, i2, i3, i4⟩ := valsP_rep (F := F) (kd := ys) e2 t
      cases ek : pOf kv.2 with
      | none => rw [ek] at e1; cases e1
      | some d =>
        rw [ek] at e1
        cases e1
        have ed : kv.2 = .p d := by
          cases q : kv.2 with
          | p x => rw [q] at ek; cases ek; rfl
          | o n => rw [q] at ek; cases ek
          | s l => rw [q] at ek; cases ek
        have hv := a.2
        rw [ed] at hv
        refine ⟨fun b hb => ?_, ?_, ?_, by simp [i4]⟩
        · rw [List.map_cons, List.zip_cons_cons] at hb
          rcases List.mem_cons.mp hb with rfl | hb
          · exact hv
          · exact i1 b hb
        · rw [List.map_cons, List.zip_cons_cons, List.map_cons, i2]
        · rw [List.map_cons, List.zip_cons_cons, List.map_cons, i3, List.map_cons]
          unfold itB
          dsimp only
          rw [← a.1]
    · cases h
theorem paired_map {α β : Type} {R : α → β → Prop} {xs : List α} {ys : List β} (h : Paired R xs ys) {S : α → β → Prop} (k : ∀ x y, y ∈ ys → R x y → S x y) : Paired S xs ys := by
  induction h with
  | nil => exact .nil
  | cons a t ih => exact .cons (k _ _ List.mem_cons_self a) (ih fun x y hy => k x y (List.mem_cons_of_mem _ hy))
theorem key_dq {F : Hp} (k : Key) : Dq K F (kV k) (keyP k) := by
  cases k with
  | inl i => exact .int i
  | inr z => exact .str z
/-- a list of pairs laid anew is taken in -/
theorem pairs_in {c1 : Cf} {H1 H' : Hp} {s : Sto} {fl : Bool} {l : Addr} {ys : List V} {bs : List KB} {W : Xn → Sto → Cf → Hp → Prop} (r : Rep K cA c1 H1 s) (sm : Same H1 H') (hl : H1 l = none) (hl2 : H' l = some (.lst ys))
    (hp : Paired (fun y (b : KB) => ∃ t, y = V.ref t ∧ H1 t = none ∧ H' t = some (.tup [kV b.1.1, b.1.2])) ys bs) (hd : ∀ b ∈ bs, Dq K c1.F b.1.2 b.2) (h : Post K cA c1 H1 (mkL fl ((bs.map itB).map .p) s) (okQ K Q) W) : Q (.ref l) H' := by
  let Hm : Hp := fun a => if a = l then none else H' a
  have sm2 : Same H1 Hm := fun a o e => by
    have ne : a ≠ l := ne_of_none e hl
    show (if a = l then none else H' a) = some o
    rw [if_neg ne]
    exact sm a o e
  obtain ⟨r2, x2⟩ := r.more sm2
  have hm : Hm l = none := if_pos rfl
  have eH : H' = upd Hm l (.lst ys) := by
    funext a
    by_cases e : a = l
    · rw [e, upd_same]
      exact hl2
    · rw [upd_ne e]
      exact (if_neg e).symm
  obtain ⟨f1, f2⟩ := r2.fresh hm
  have r3 := r2.grow (u := .lst ys) hm
  have x3 := x2.trans (Ext.grow (c := ⟨moreF c1 H1 Hm, c1.ι⟩) (u := .lst ys) hm)
  rw [← eH] at r3 x3
  refine mkL_adopt x3 r3 hl2 f1 f2 hl ?_ h
  have hq : DqAll K (moreF c1 H1 Hm) ys (bs.map itB) := by
    have q := paired_map hp (S := fun y b => Dq K (moreF c1 H1 Hm) y (itB b)) fun y b hb ⟨t, e1, e2, e3⟩ => by
      subst e1
      have ne : t ≠ l := fun z => by
        rw [z, hl2] at e3
        cases e3
      have ft : moreF c1 H1 Hm t = some (.tup [kV b.1.1, b.1.2]) := by
        unfold moreF
        rw [e2]
        exact (if_neg ne).trans e3
      exact .tup (SqT.of ft) (.cons (key_dq _) (.cons (dq_mono x2.f (hd b hb)) .nil))
    clear hp hd h hl2 eH r3 x3
    induction q with
    | nil => exact .nil
    | cons a t ih => exact .cons a ih
  exact repVs_of (c := ⟨moreF c1 H1 Hm, c1.ι⟩) hq
theorem srt_map_itB (bs : List KB) : (srtB itB bs).map itB = srtD (bs.map itB) := srtB_map itB bs
theorem rd_sit {fl : Bool} {d : E} (h : tE K cA P W (.sit fl d) σ H Q) : tCB (rSrtIt K) (tCons (tBM0 K "dict" rItemsK (tE K cA P W d)) tNil) σ H Q := by
  obtain ⟨c, e, s, r, re, h⟩ := h
  simp only [ev] at h
  refine (sub_e r re h fun _ _ _ _ z => z).mono fun x H1 ⟨c1, d1, s1, x1, r1, re1, v1, h1⟩ => ?_
  unfold sitop at h1
  split at h1
  · rename_i kd e1
    obtain ⟨kvs, e2, e3⟩ := Option.bind_eq_some_iff.mp e1
    obtain ⟨lz, h1⟩ := h1.if_
    unfold srtop at h1
    obtain ⟨so, h1⟩ := h1.if_
    obtain ⟨n, a, ws, rfl, rfl, i1, i2, i3, i4, rk⟩ := asD_at r1 e2 v1
    obtain ⟨z1, z2, z3, z4⟩ := valsP_rep (F := c1.F) e3 rk
    refine ⟨.inr (.inr (.inl ⟨rfl, .inl ⟨ws, i3⟩⟩)), a, ws, rfl, rfl, i3, fun p hp => ?_⟩
    have nea : a ≠ p := ne_of_none i3 hp
    have smp : Same H1 (upd H1 p (DX.itemsO p a)) := fun b o e => by rw [upd_ne (ne_of_none e hp)]; exact e
    refine ⟨p, a, ws.zip (kd.map (·.2)), rfl, upd_same, by rw [upd_ne nea, z2]; exact i3, fun b hb => dq_dp (dq_mono (r1.sub.trans smp) (z1 b hb)), by rw [z3]; exact so, ?_, fun H' l ys g1 g2 g3 g4 => ?_⟩
    · have := congrArg List.length z3
      rw [List.length_map, List.length_map] at this
      omega
    · have hl : H1 l = none := by
        by_cases e : l = p
        · rw [e]; exact hp
        · rw [← upd_ne (H := H1) (o := DX.itemsO p a) e]; exact g2
      refine pairs_in (fl := fl) r1 (smp.trans g1) hl g3 (paired_map g4 fun y b _ ⟨t, t1, t2, t3⟩ => ⟨t, t1, ?_, t3⟩) (fun b hb => z1 b ((srtB_perm _ _).mem_iff.mp hb)) (by rw [srt_map_itB, z3]; exact h1)
      by_cases e : t = p
      · rw [e]; exact hp
      · rw [← upd_ne (H := H1) (o := DX.itemsO p a) e]; exact t2
  · exact h1.elim
theorem rd_lit {fl : Bool} {d : E} (h : tE K cA P W (.lit fl d) σ H Q) : LiI.tListItems (tE K cA P W d) σ H Q := by
  obtain ⟨c, e, s, r, re, h⟩ := h
  simp only [ev] at h
  refine (sub_e r re h fun _ _ _ _ z => z).mono fun x H1 ⟨c1, d1, s1, x1, r1, re1, v1, h1⟩ => ?_
  unfold litop at h1
  split at h1
  · rename_i kd e1
    obtain ⟨kvs, e2, e3⟩ := Option.bind_eq_some_iff.mp e1
    obtain ⟨lz, h1⟩ := h1.if_
    obtain ⟨n, a, ws, rfl, rfl, i1, i2, i3, i4, rk⟩ := asD_at r1 e2 v1
    obtain ⟨z1, z2, z3, z4⟩ := valsP_rep (F := c1.F) e3 rk
    refine ⟨a, ws, rfl, i3, fun H' p ts g1 g2 g3 g4 g5 g6 => ?_⟩
    have g7 : Paired (fun y (b : KB) => ∃ t, y = V.ref t ∧ H1 t = none ∧ H' t = some (.tup [kV b.1.1, b.1.2])) (ts.map V.ref) (ws.zip (kd.map (·.2))) := by
      have lw : (ws.zip (kd.map (·.2))).length = ws.length := by
        have := congrArg List.length z2
        rwa [List.length_map] at this
      have gen : ∀ (ts : List Addr) (bs : List KB), (∀ t ∈ ts, H1 t = none) → Paired (fun (t : Addr) (q : Key × V) => H' t = some (.tup [kV q.1, q.2])) ts (bs.map (·.1)) → Paired (fun y (b : KB) => ∃ t, y = V.ref t ∧ H1 t = none ∧ H' t = some (.tup [kV b.1.1, b.1.2])) (ts.map V.ref) bs := by
        intro ts
        induction ts with
        | nil =>
          intro bs _ q
          cases bs with
          | nil => exact .nil
          | cons b bs => cases q
        | cons t ts ih =>
          intro bs hn q
          cases bs with
          | nil => cases q
          | cons b bs =>
            cases q with
            | cons q1 q2 => exact .cons ⟨t, rfl, hn t List.mem_cons_self, q1⟩ (ih bs (fun u hu => hn u (List.mem_cons_of_mem _ hu)) q2)
      exact gen ts _ g3 (by rw [z2]; exact g6)
    have h2 : Post K cA c1 H1 (mkL fl (((ws.zip (kd.map (·.2))).map itB).map .p) s1) (okQ K Q) (WW K cA W σ) := by
      rw [z3, List.map_map]
      exact h1
    exact pairs_in (fl := fl) r1 g1 g2 g5 g7 z1 h2
  · exact h1.elim
/-! ### sets of ints -/
theorem ints_lst {c : Cf} {s : Sto} {d : D} {x : V} {l : List Int} (r : Rep K cA c H s) (e : (asL s d).bind intsO = some l) (h : RepV K c d x) : ∃ a, x = .ref a ∧ H a = some (.lst (l.map V.int)) := by
  obtain ⟨xs, e1, e2⟩ := Option.bind_eq_some_iff.mp e
  obtain ⟨a, vs, rfl, ha, hv⟩ := r.asL e1 h
  have := ints_v hv e2
  subst this
  exact ⟨a, rfl, ha⟩
theorem ints_reps {c : Cf} : ∀ l : List Int, RepVs K c (l.map fun i => D.p (.int i)) (l.map V.int)
  | [] => .nil
  | i :: l => .cons ok_int (ints_reps l)
theorem rd_srs {w : World} {fl : Bool} {a : E} (h : tE K cA P W (.srs fl a) σ H Q) : tCB (rSortedSet w) (tCons (tCB (rSetL K w) (tCons (tE K cA P W a) tNil)) tNil) σ H Q := by
  obtain ⟨c, e, s, r, re, h⟩ := h
  simp only [ev] at h
  refine (sub_e r re h fun _ _ _ _ z => z).mono fun x H1 ⟨c1, d1, s1, x1, r1, re1, v1, h1⟩ => ?_
  unfold srsop at h1
  split at h1
  · rename_i l el
    obtain ⟨lz, h1⟩ := h1.if_
    obtain ⟨b, rfl, hb⟩ := ints_lst r1 el v1
    refine ⟨b, l, rfl, SqL.of hb, lz, fun p hp => ⟨p, _, _, rfl, upd_same, ?_, fun ns q h2 h3 h4 h5 => ?_⟩⟩
    · have := nodup_le (dd l) l (nodup_dd l) fun x hx => (mem_dd l x).mp hx
      omega
    · have en : ns = setI l := setI_one h2 fun x => by rw [h3 x, decide_eq_true_eq]
      subst en
      have r2 := r1.grow (u := SetO w p (fun j => decide (j ∈ l)) (dd l).length) hp
      exact (mkL_new r2 (ints_reps _) (h1.mono (Ext.grow hp))).2 q h5
  · exact h1.elim
theorem rd_lns {w : World} {a : E} (h : tE K cA P W (.lns a) σ H Q) : tCB (rLenSet w) (tCons (tCB (rSetL K w) (tCons (tE K cA P W a) tNil)) tNil) σ H Q := by
  obtain ⟨c, e, s, r, re, h⟩ := h
  simp only [ev] at h
  refine (sub_e r re h fun _ _ _ _ z => z).mono fun x H1 ⟨c1, d1, s1, x1, r1, re1, v1, h1⟩ => ?_
  unfold lnsop at h1
  split at h1
  · rename_i l el
    obtain ⟨lz, h1⟩ := h1.if_
    obtain ⟨b, rfl, hb⟩ := ints_lst r1 el v1
    refine ⟨b, l, rfl, SqL.of hb, lz, fun p hp => ⟨p, _, _, rfl, upd_same, ?_, ?_⟩⟩
    · have := nodup_le (dd l) l (nodup_dd l) fun x hx => (mem_dd l x).mp hx
      omega
    · exact (h1.mono (Ext.grow hp)).ok (r1.grow hp) _ ok_int
  · exact h1.elim
/-! ### further readings -/
theorem rd_idx {a x : E} (h : tE K cA P W (.idx a x) σ H Q) : tBM K "list" (rIndexD K) (tE K cA P W a) (tCons (tE K cA P W x) tNil) σ H Q := by
  obtain ⟨c, e, s, r, re, h⟩ := h
  simp only [ev] at h
  refine (sub_e r re h fun _ _ _ _ z => z).mono fun l H1 ⟨c1, d1, s1, x1, r1, re1, v1, h1⟩ => ?_
  obtain ⟨xs, e1, h1⟩ := h1.rOr
  obtain ⟨p, vs, rfl, g1, g2⟩ := r1.asL e1 v1
  refine ⟨Or.inl ⟨rfl, vs, SqL.of g1⟩, (sub_e r1 re1 h1 fun _ _ _ _ z => z).mono fun y H2 ⟨c2, d2, s2, x2, r2, re2, v2, h2⟩ => ?_⟩
  unfold idxop at h2
  split at h2
  · rename_i ds d e3 e4
    obtain ⟨⟨k1, k2⟩, h2⟩ := h2.if_
    split at h2
    · rename_i j ej
      obtain ⟨j1, j2, j3⟩ := List.findIdx?_eq_some_iff_getElem.mp ej
      refine ⟨p, y, d, ds, j, ds[j], rfl, rfl, r2.res 8 e3 (v1.mono x2), r2.res 8 e4 v2, k1, k2, List.getElem?_eq_getElem j1, j2, fun m z hm hz => ?_, h2.ok r2 _ ok_int⟩
      obtain ⟨m1, m2⟩ := List.getElem?_eq_some_iff.mp hz
      have := j3 m hm
      rw [m2] at this
      exact eq_false_of_ne_true this
    · exact h2.elim
  · exact h2.elim
theorem rd_cnt {a x : E} (h : tE K cA P W (.cnt a x) σ H Q) : tBM K "list" (rCntI K) (tE K cA P W a) (tCons (tE K cA P W x) tNil) σ H Q := by
  obtain ⟨c, e, s, r, re, h⟩ := h
  simp only [ev] at h
  refine (sub_e r re h fun _ _ _ _ z => z).mono fun l H1 ⟨c1, d1, s1, x1, r1, re1, v1, h1⟩ => ?_
  obtain ⟨xs, e1, h1⟩ := h1.rOr
  obtain ⟨p, vs, rfl, g1, g2⟩ := r1.asL e1 v1
  refine ⟨Or.inl ⟨rfl, vs, SqL.of g1⟩, (sub_e r1 re1 h1 fun _ _ _ _ z => z).mono fun y H2 ⟨c2, d2, s2, x2, r2, re2, v2, h2⟩ => ?_⟩
  unfold cntop at h2
  split at h2
  · rename_i l k e3 e4
    obtain ⟨b, e5, hb⟩ := ints_lst r2 e3 (v1.mono x2)
    cases e5
    exact ⟨p, l, k, rfl, by rw [dInt_v e4 v2], SqL.of hb, h2.ok r2 _ ok_int⟩
  · exact h2.elim
theorem rd_clr {d : E} (h : tE K cA P W (.clr d) σ H Q) : tBM0 K "dict" rDClear (tE K cA P W d) σ H Q := by
  obtain ⟨c, e, s, r, re, h⟩ := h
  simp only [ev] at h
  refine (sub_e r re h fun _ _ _ _ z => z).mono fun x H1 ⟨c1, d1, s1, x1, r1, re1, v1, h1⟩ => ?_
  obtain ⟨kvs, e0, h1⟩ := h1.rOr
  obtain ⟨n, a, ws, rfl, rfl, i1, i2, i3, i4, rk⟩ := asD_at r1 e0 v1
  refine ⟨.inr (.inr (.inl ⟨rfl, .inl ⟨ws, i3⟩⟩)), a, ws, rfl, rfl, i3, ?_⟩
  unfold clrop at h1
  rw [e0] at h1
  dsimp only at h1
  exact h1 c1 (upd H1 a (.dK [])) (Ext.wr r1 i1) (r1.wr i2 i1 ⟨[], rfl, .nil⟩) .non Dq.non
theorem rd_lrg {fl : Bool} {a : E} (h : tE K cA P W (.lrg fl a) σ H Q) : tLstRg (tRg1 (tE K cA P W a)) σ H Q := by
  obtain ⟨c, e, s, r, re, h⟩ := h
  simp only [ev] at h
  refine (sub_e r re h fun _ _ _ _ z => z).mono fun x H1 ⟨c1, d1, s1, x1, r1, re1, v1, h1⟩ => ?_
  obtain ⟨i, e1, h1⟩ := h1.rOr
  obtain ⟨⟨l1, l2⟩, h1⟩ := h1.if_
  refine ⟨i, dInt_v e1 v1, ⟨by omega, by omega, by omega, by omega, by omega⟩, (mkL_new (vs := rgV 0 i) r1 ?_ h1).2⟩
  have e2 : rgV 0 i = (List.range i.toNat).map fun (k : Nat) => V.int (k : Int) := by
    unfold rgV
    rw [Int.sub_zero]
    exact List.map_congr_left fun k _ => by rw [Int.zero_add]
  rw [e2]
  have gen : ∀ l : List Nat, RepVs K c1 (l.map fun (k : Nat) => D.p (.int (k : Int))) (l.map fun (k : Nat) => V.int (k : Int)) := fun l => by
    induction l with
    | nil => exact .nil
    | cons k l ih => exact .cons ok_int ih
  exact gen _
theorem rd_mn2 {a b : E} (h : tE K cA P W (.bi2 .min a b) σ H Q) : tCB (fun xs H Q => ∃ i j, xs = [V.int i, .int j] ∧ Q (.int (if j < i then j else i)) H) (tCons (tE K cA P W a) (tCons (tE K cA P W b) tNil)) σ H Q := by
  obtain ⟨c, e, s, r, re, h⟩ := h
  simp only [ev] at h
  refine (sub_e r re h fun _ _ _ _ z => z).mono fun x H1 ⟨c1, d1, s1, x1, r1, re1, v1, h1⟩ => (sub_e r1 re1 h1 fun _ _ _ _ z => z).mono fun y H2 ⟨c2, d2, s2, x2, r2, re2, v2, h2⟩ => ?_
  unfold mn2op at h2
  split at h2
  · rename_i i j e1 e2
    rw [if_neg Bool.false_ne_true] at h2
    exact ⟨i, j, by rw [dInt_v e1 (v1.mono x2), dInt_v e2 v2], h2.ok r2 _ ok_int⟩
  · exact h2.elim
theorem rd_mx2 {a b : E} (h : tE K cA P W (.bi2 .max a b) σ H Q) : tCB (fun xs H Q => ∃ i j, xs = [V.int i, .int j] ∧ Q (.int (if i < j then j else i)) H) (tCons (tE K cA P W a) (tCons (tE K cA P W b) tNil)) σ H Q := by
  obtain ⟨c, e, s, r, re, h⟩ := h
  simp only [ev] at h
  refine (sub_e r re h fun _ _ _ _ z => z).mono fun x H1 ⟨c1, d1, s1, x1, r1, re1, v1, h1⟩ => (sub_e r1 re1 h1 fun _ _ _ _ z => z).mono fun y H2 ⟨c2, d2, s2, x2, r2, re2, v2, h2⟩ => ?_
  unfold mn2op at h2
  split at h2
  · rename_i i j e1 e2
    rw [if_pos rfl] at h2
    exact ⟨i, j, by rw [dInt_v e1 (v1.mono x2), dInt_v e2 v2], h2.ok r2 _ ok_int⟩
  · exact h2.elim
/-! ### instances -/
theorem ins_at {c : Cf} {s : Sto} {k : Nat} {fs : List (Str × D)} {n : Nat} {v : V} (r : Rep K cA c H s) (e : cel s n = some (.ins k fs)) (h : RepV K c (.o n) v) : ∃ a dx ws, v = .ref a ∧ c.ι[n]? = some a ∧ s[n]? = some (some (.ins k fs)) ∧ H a = some (.ins (cA k) dx ws) ∧ c.F a = none ∧ RepK K c fs ws := by
  obtain ⟨a, u, rfl, e2, e3, e4, e5, dx, ws, rfl, e7⟩ := r.at e h
  exact ⟨a, dx, ws, rfl, e2, e3, e4, e5, e7⟩
theorem rd_ifd {k : Nat} {a : E} {f : Str} (hc : Cls K (cA k)) (hn : NoAttr K (cA k) f) (h : tE K cA P W (.ifd k a f) σ H Q) : tFld K (tE K cA P W a) f σ H Q := by
  obtain ⟨c, e, s, r, re, h⟩ := h
  simp only [ev] at h
  refine (sub_e r re h fun _ _ _ _ z => z).mono fun x H1 ⟨c1, d1, s1, x1, r1, re1, v1, h1⟩ => ?_
  unfold ifdop at h1
  split at h1
  · rename_i n
    split at h1
    · rename_i k' fs ec
      obtain ⟨ek, h2⟩ := h1.if_
      clear h1
      subst ek
      cases el : fs.lookup f with
      | none => rw [el] at h2; exact h2.elim
      | some d =>
        rw [el] at h2
        obtain ⟨b, dx, ws, rfl, i1, i2, i3, i4, rk⟩ := ins_at r1 ec v1
        obtain ⟨g1, g2⟩ := lookup_repK rk f
        obtain ⟨u, u1, u2⟩ := g1 d el
        exact ⟨b, _, dx, ws, u, rfl, i3, hc, hn, u1, h2.ok r1 u u2⟩
    · exact h1.elim
  · exact h1.elim
theorem rd_mk {k f n : Nat} {es : Es} (hn : ∀ {c : Cf} {H : Hp} {e : Env} {s : Sto} {A : List D → Sto → Cf → Hp → Prop} {W : Xn → Sto → Cf → Hp → Prop}, Post K cA c H (evs P es e s) A W → Post K cA c H (evs P es e s) (fun ds s' c' H' => ds.length = n ∧ A ds s' c' H') W) (h : tE K cA P W (.mk k f es) σ H Q) :
    tMakeG (cA k) (spF K cA P f (n + 1)) (fun σ => WE W σ) (tA K cA P W es) σ H Q := by
  obtain ⟨c, e, s, r, re, h⟩ := h
  simp only [ev] at h
  refine ⟨c, e, s, r, re, (hn h.bind).imp (fun ds s1 c1 H1 x1 r1 z vs hv => ?_) fun _ _ _ _ _ _ z => z⟩
  obtain ⟨z1, z2⟩ := z
  intro x dx hx hd ne
  obtain ⟨f1, f2⟩ := r1.fresh hd
  have rd : Rep K cA c1 (upd H1 dx (.own x)) s1 := r1.grow hd
  have xd : Ext c1 H1 c1 (upd H1 dx (.own x)) := Ext.grow hd
  have hx2 : upd H1 dx (.own x) x = none := by rw [upd_ne (Ne.symm ne)]; exact hx
  obtain ⟨g1, g2⟩ := rd.fresh hx2
  have x2 : Ext c1 H1 ⟨c1.F, c1.ι ++ [x]⟩ (upd (upd H1 dx (.own x)) x (.ins (cA k) dx [])) := (xd.trans (Ext.grow hx2)).adC hx
  have r2 : Rep K cA ⟨c1.F, c1.ι ++ [x]⟩ (upd (upd H1 dx (.own x)) x (.ins (cA k) dx [])) (s1 ++ [some (.ins k [])]) := (rd.grow hx2).adC upd_same g1 g2 ⟨dx, [], rfl, .nil⟩
  have hself : RepV K ⟨c1.F, c1.ι ++ [x]⟩ (.o s1.length) (.ref x) := ⟨x, by
    show (c1.ι ++ [x])[s1.length]? = some x
    rw [List.getElem?_append_right (by rw [r1.len]; exact Nat.le_refl _), r1.len, Nat.sub_self]
    rfl, rfl⟩
  refine ⟨_, .o s1.length :: ds, _, r2, .cons hself (hv.mono x2), by simp [z1], (z2.mono x2).bind.imp (fun v s3 c3 H3 x3 r3 y u hu => ?_) fun _ _ _ _ _ _ y => y⟩
  obtain ⟨y1, y2⟩ := y.if_
  have eu : u = .non := by
    have := v_isNone hu
    rw [y1] at this
    exact of_decide_eq_true this.symm
  exact ⟨eu, y2.ok r3 (.ref x) (hself.mono x3)⟩
theorem rd_mc {k f n : Nat} {m : Str} {a : E} {es : Es} (hn : ∀ {c : Cf} {H : Hp} {e : Env} {s : Sto} {A : List D → Sto → Cf → Hp → Prop} {W : Xn → Sto → Cf → Hp → Prop}, Post K cA c H (evs P es e s) A W → Post K cA c H (evs P es e s) (fun ds s' c' H' => ds.length = n ∧ A ds s' c' H') W) (h : tE K cA P W (.mc k m f a es) σ H Q) :
    tMethG (cA k) m (spF K cA P f (n + 1)) (fun σ => WE W σ) (tE K cA P W a) (tA K cA P W es) σ H Q := by
  obtain ⟨c, e, s, r, re, h⟩ := h
  simp only [ev] at h
  refine (sub_e r re h fun _ _ _ _ z => z).mono fun x H1 ⟨c1, d1, s1, x1, r1, re1, v1, h1⟩ => ?_
  split at h1
  · rename_i n'
    split at h1
    · rename_i k' fs ec
      obtain ⟨⟨ek, el⟩, h2⟩ := h1.if_
      clear h1
      subst ek
      obtain ⟨b, dx, ws, rfl, i1, i2, i3, i4, rk⟩ := ins_at r1 ec v1
      refine ⟨b, dx, ws, rfl, i3, (lookup_repK rk m).2 el, c1, e, s1, r1, re1, (hn h2.bind).imp (fun ds s2 c2 H2 x2 r2 z vs hv => ?_) fun _ _ _ _ _ _ z => z⟩
      obtain ⟨z1, z2⟩ := z
      exact ⟨c2, _, s2, r2, .cons (v1.mono x2) hv, by simp [z1], z2⟩
    · exact h1.elim
  · exact h1.elim
end
end
end G

namespace G
open PySem PySem.Spec PyProof.Rows L2
open Classical
noncomputable section
section
variable {K : PySem.W.Frag} {cA : Nat → Addr}
/-! ### cells that are walked -/
theorem Rep.wrD {c : Cf} {H : Hp} {s : Sto} (r : Rep K cA c H s) {n : Nat} {a : Addr} {u : HO} (ha : c.ι[n]? = some a) (f0 : c.F a = none) (hs : dead s n) : Rep K cA c (upd H a u) s := by
  refine ⟨fun b o q => ?_, r.len, r.nd, fun b m => ?_, fun k y b h1 h2 => ?_⟩
  · rw [upd_ne (ne_of_none q f0)]
    exact r.sub b o q
  · by_cases e : b = a
    · rw [e, upd_same]; simp
    · rw [upd_ne e]; exact r.dom b m
  · have ne : b ≠ a := fun q => by
      subst q
      obtain ⟨l1, e1⟩ := List.getElem?_eq_some_iff.mp h2
      obtain ⟨l2, e2⟩ := List.getElem?_eq_some_iff.mp ha
      have kn : k = n := (List.getElem_inj r.nd).mp (e1.trans e2.symm)
      subst kn
      exact hs y h1
    obtain ⟨g1, u', g2, g3⟩ := r.cell k y b h1 h2
    exact ⟨g1, u', by rw [upd_ne ne]; exact g2, g3⟩
/-- a dict locked, its cell given up -/
theorem Rep.lockD {c : Cf} {H : Hp} {s : Sto} (r : Rep K cA c H s) {n : Nat} {a : Addr} (ha : c.ι[n]? = some a) (f0 : c.F a = none) (u : HO) : Rep K cA ⟨upd c.F a u, c.ι⟩ (upd H a u) (s.set n none) ∧ Ext c H ⟨upd c.F a u, c.ι⟩ (upd H a u) := by
  have r2 : Rep K cA c H (s.set n none) := r.drop
  have r3 : Rep K cA c (upd H a u) (s.set n none) := r2.wrD ha f0 dead_self
  obtain ⟨r4, x4⟩ := r3.fzc ha upd_same f0 dead_self
  exact ⟨r4, (Ext.wr (u := u) r2 ha).trans x4⟩
theorem ext0 {c c' : Cf} {H' : Hp} (f : Same c.F c'.F) (i : c.ι <+: c'.ι) : Ext c (fun _ => none) c' H' := ⟨f, i, fun a o z => by cases z⟩
theorem jok_keys {kvs : List (Key × D)} {ws : List (Key × V)} {c0 c1 : Cf} {H1 : Hp} {a : Addr} {od : Obj} (rk : RepK K c0 kvs ws) (ha : c1.F a = some (.frz od (.dK ws))) : JOk K cA c1 H1 (Itk a od ws) (kvs.map fun kv => .one (.p (keyP kv.1))) := by
  intro c H s x xi r i
  have e : H a = some (.frz od (.dK ws)) := r.sub _ _ (x _ _ ha)
  have hl := Paired.length rk
  rw [List.length_map]
  refine ⟨fun h => ⟨e, by omega⟩, fun y hy v H' hyl => ?_, fun h => ⟨e, by omega⟩⟩
  obtain ⟨rfl, k, w, e1, rfl⟩ := hyl
  refine ⟨c, Ext.refl _ _, r, ?_⟩
  rw [List.getElem?_map] at hy
  obtain ⟨kv, e2, e3⟩ := paired_at rk e1
  rw [e2] at hy
  cases hy
  show RepV K c (.p (keyP kv.1)) (kV k)
  rw [e3.1]
  exact key_dq k
theorem jok_items {kvs : List (Key × D)} {ws : List (Key × V)} {c1 : Cf} {H1 : Hp} {a : Addr} {od : Obj} (rk : RepK K c1 kvs ws) (ha : c1.F a = some (.frz od (.dK ws))) : JOk K cA c1 H1 (Iti a od ws) (kvs.map fun kv => .tp [.p (keyP kv.1), kv.2]) := by
  intro c H s x xi r i
  have e : H a = some (.frz od (.dK ws)) := r.sub _ _ (x _ _ ha)
  have hl := Paired.length rk
  rw [List.length_map]
  refine ⟨fun h => ⟨e, by omega⟩, fun y hy v H' hyl => ?_, fun h => ⟨e, by omega⟩⟩
  obtain ⟨T, k, w, e1, rfl, hT, rfl⟩ := hyl
  obtain ⟨f1, f2⟩ := r.fresh hT
  have x2 : Ext c H ⟨upd c.F T (.tup [kV k, w]), c.ι⟩ (upd H T (.tup [kV k, w])) := (Ext.grow hT).adF f1 hT
  refine ⟨_, x2, (r.grow hT).adF upd_same f1 f2, ?_⟩
  rw [List.getElem?_map] at hy
  obtain ⟨kv, e2, e3⟩ := paired_at rk e1
  rw [e2] at hy
  cases hy
  refine ⟨T, _, rfl, SqT.of upd_same, .cons ?_ (.cons ((e3.2.mono (ext0 (H' := H) x xi)).mono x2) .nil)⟩
  rw [e3.1]
  exact key_dq k
theorem jok_cell {a : Addr} {vs : List V} {xs : List D} {c1 : Cf} {H1 : Hp} (ha : c1.F a = some (.lst vs)) (hv : RepVs K c1 xs vs) : JOk K cA c1 H1 (Itl K a) (xs.map .one) := by
  intro c H s x xi r i
  have e : SqL K H a vs := SqL.of (r.sub _ _ (x _ _ ha))
  have hl := Paired.length hv
  rw [List.length_map]
  refine ⟨fun h => ⟨vs, vs[i], e, by simp⟩, fun y hy v H' hyl => ?_, fun h => ⟨vs, e, by omega⟩⟩
  obtain ⟨rfl, hw⟩ := hyl
  have e1 := hw vs e
  obtain ⟨d, e2, e3⟩ := paired_at hv e1
  refine ⟨c, Ext.refl _ _, r, ?_⟩
  rw [List.getElem?_map, e2] at hy
  cases hy
  exact e3.mono (ext0 (H' := H') x xi)
theorem jok_zip {a b : Addr} {vs us : List V} {ds es : List PyData} {c1 : Cf} {H1 : Hp} (ha : c1.F a = some (.lst vs)) (hb : c1.F b = some (.lst us)) (hv : DqAll K c1.F vs ds) (hu : DqAll K c1.F us es) : JOk K cA c1 H1 (Itz K a b) ((ds.zip es).map fun p => .tp [.p p.1, .p p.2]) := by
  intro c H s x xi r i
  have ea : SqL K H a vs := SqL.of (r.sub _ _ (x _ _ ha))
  have eb : SqL K H b us := SqL.of (r.sub _ _ (x _ _ hb))
  have l1 := Paired.length (repVs_of (c := c1) hv)
  have l2 := Paired.length (repVs_of (c := c1) hu)
  rw [List.length_map] at l1 l2
  rw [List.length_map, List.length_zip]
  refine ⟨fun h => ⟨vs, us, vs[i]'(by omega), us[i]'(by omega), ea, eb, by simp, by simp⟩, fun y hy v H' hyl => ?_, fun h => ⟨vs, us, ea, eb, by omega⟩⟩
  obtain ⟨T, w, z, rfl, hT, rfl, hw, hz⟩ := hyl
  have ew := hw vs ea
  have ez := hz us eb
  obtain ⟨f1, f2⟩ := r.fresh hT
  have x2 : Ext c H ⟨upd c.F T (.tup [w, z]), c.ι⟩ (upd H T (.tup [w, z])) := (Ext.grow hT).adF f1 hT
  refine ⟨_, x2, (r.grow hT).adF upd_same f1 f2, ?_⟩
  have x3 := (ext0 (H' := H) x xi)
  obtain ⟨d1, g1, g2⟩ := paired_at (repVs_of (c := c1) hv) ew
  obtain ⟨d2, g3, g4⟩ := paired_at (repVs_of (c := c1) hu) ez
  rw [List.getElem?_map] at g1 g3
  cases q1 : ds[i]? with
  | none => rw [q1] at g1; cases g1
  | some p1 =>
    cases q2 : es[i]? with
    | none => rw [q2] at g3; cases g3
    | some p2 =>
      rw [q1] at g1
      rw [q2] at g3
      cases g1
      cases g3
      rw [List.getElem?_map, List.getElem?_zip_eq_some (z := (p1, p2)) |>.mpr ⟨q1, q2⟩] at hy
      cases hy
      exact ⟨T, _, rfl, SqT.of upd_same, .cons ((RepV.mono x3 g2).mono x2) (.cons ((RepV.mono x3 g4).mono x2) .nil)⟩
end
section
variable {X : Cx}
/-- what is handed on is locked -/
def tLk (te : TE) : TE := fun σ H Q => te σ H fun x H1 => ∃ d u, x = .ref d ∧ H1 d = some u ∧ Mut (some u) ∧ ∀ od, Q x (upd H1 d (.frz od u))
theorem pe_lk {e : Expr} {te : TE} (he : PE X e te) : PE X e (tLk te) := ⟨fun pins s σ H Q I h => thn (he.run pins s σ H _ I h) fun v s1 ⟨x, H1, I1, rx, d, u, ex, hd, mu, q⟩ => by
  obtain ⟨od, I2⟩ := I1.lock hd mu
  exact ⟨x, _, I2, rx, q od⟩⟩
end
section
variable {T : Tb} {N : List Str} {P : Pg} {cA : Nat → Addr} {lv : Nat}
variable {K : PySem.W.Frag} {W : WX} {σ : L2.St} {H : Hp} {Q : VK} {R : L2.It → Hp → Prop}
theorem rd_dk {a : E} (h : tI K cA P W (.dk a) σ H R) : iKeys (tLk (tE K cA P W a)) σ H R := by
  obtain ⟨c, e, s, r, re, h⟩ := h
  simp only [evi] at h
  refine (sub_e r re h fun _ _ _ _ z => z).mono fun x H1 ⟨c1, d1, s1, x1, r1, re1, v1, h1⟩ => ?_
  split at h1
  · rename_i n
    split at h1
    · rename_i kvs ec
      have ea : asD s1 (.o n) = some kvs := by
        unfold asD
        dsimp only
        rw [ec]
      obtain ⟨n', b, ws, en, rfl, i1, i2, i3, i4, rk⟩ := asD_at r1 ea v1
      cases en
      refine ⟨b, _, rfl, i3, trivial, fun od => ⟨b, od, rfl, .inl ⟨ws, upd_same, ?_⟩⟩⟩
      obtain ⟨r2, x2⟩ := r1.lockD i1 i4 (.frz od (.dK ws))
      exact h1 _ _ x2 r2 _ (jok_keys rk upd_same)
    · exact h1.elim
  · exact h1.elim
theorem rd_dit {a : E} (h : tI K cA P W (.dit a) σ H R) : iItems (tLk (tE K cA P W a)) σ H R := by
  obtain ⟨c, e, s, r, re, h⟩ := h
  simp only [evi] at h
  refine (sub_e r re h fun _ _ _ _ z => z).mono fun x H1 ⟨c1, d1, s1, x1, r1, re1, v1, h1⟩ => ?_
  split at h1
  · rename_i n
    split at h1
    · rename_i kvs ec
      have ea : asD s1 (.o n) = some kvs := by
        unfold asD
        dsimp only
        rw [ec]
      obtain ⟨n', b, ws, en, rfl, i1, i2, i3, i4, rk⟩ := asD_at r1 ea v1
      cases en
      refine ⟨b, _, rfl, i3, trivial, fun od => ⟨b, od, ws, rfl, upd_same, ?_⟩⟩
      obtain ⟨r2, x2⟩ := r1.lockD i1 i4 (.frz od (.dK ws))
      exact h1 _ _ x2 r2 _ (jok_items (RepK.mono x2 rk) upd_same)
    · exact h1.elim
  · exact h1.elim
theorem rd_zip {a b : E} (h : tI K cA P W (.zip a b) σ H R) : iZip K (tCons (tE K cA P W a) (tCons (tE K cA P W b) tNil)) σ H R := by
  obtain ⟨c, e, s, r, re, h⟩ := h
  simp only [evi] at h
  refine (sub_e r re h fun _ _ _ _ z => z).mono fun x H1 ⟨c1, d1, s1, x1, r1, re1, v1, h1⟩ => (sub_e r1 re1 h1 fun _ _ _ _ z => z).mono fun y H2 ⟨c2, d2, s2, x2, r2, re2, v2, h2⟩ => ?_
  split at h2
  · rename_i ds es
    have v1' := v1.mono x2
    cases v1' with
    | lst g1 g2 =>
      cases v2 with
      | lst g3 g4 => exact ⟨_, _, _, _, rfl, SqL.of (r2.sub _ _ g1), SqL.of (r2.sub _ _ g3), h2.ok r2 _ (jok_zip g1 g3 g2 g4)⟩
  · exact h2.elim
/-! ### dict comprehensions -/
theorem mergeKD_snoc (l : List (Key × D)) (k : Key) (d : D) : mergeKD [] (l ++ [(k, d)]) = putKD (mergeKD [] l) k d := by
  unfold mergeKD
  rw [List.foldl_append]
  rfl
theorem putK_le (kvs : List (Key × V)) (k : Key) (v : V) : (putK kvs k v).length ≤ kvs.length + 1 := by
  unfold putK
  split
  · rw [List.length_map]; omega
  · rw [List.length_append]; exact Nat.le_refl _
theorem dct_adopt {c c1 : Cf} {H1 : Hp} {s : Sto} {kvs : List (Key × G.D)} {ws : List (Key × V)} {D : Addr} {W : Xn → Sto → Cf → Hp → Prop} (x : Ext c1 H1 c H) (r : Rep K cA c H s) (hD : H D = some (.dK ws)) (hF : c.F D = none) (hi : D ∉ c.ι) (h0 : H1 D = none) (hv : RepK K c kvs ws) (h : Post K cA c1 H1 (.ok (.o s.length) (s ++ [some (.dct kvs)])) (okQ K Q) W) : Q (.ref D) H := by
  have xe : Ext c (fun _ => none) ⟨c.F, c.ι ++ [D]⟩ H := ⟨Same.refl _, List.prefix_append _ _, fun a o z => by cases z⟩
  refine h ⟨c.F, c.ι ++ [D]⟩ _ (x.adC h0) (r.adC hD hF hi ⟨ws, rfl, RepK.mono xe hv⟩) (.ref D) ⟨D, ?_, rfl⟩
  show (c.ι ++ [D])[s.length]? = some D
  rw [List.getElem?_append_right (by rw [r.len]; exact Nat.le_refl _), r.len, Nat.sub_self]
  rfl
def DcW (K : PySem.W.Frag) (cA : Nat → Addr) (n : Nat) (c1 : Cf) (H1 : Hp) (D : Addr) (rest : Nat → List (Key × G.D) → Sto → Prop) (i m : Nat) (H : Hp) : Prop := m = n - i ∧ i ≤ n ∧ ∃ (c : Cf) (s : Sto) (acc : List (Key × V)) (dacc : List (Key × G.D)), Ext c1 H1 c H ∧ Rep K cA c H s ∧ H D = some (.dK acc) ∧ c.F D = none ∧ D ∉ c.ι ∧ RepK K c (mergeKD [] dacc) acc ∧ acc.length ≤ i ∧ rest i dacc s
theorem rd_dc {kx vx : E} {ow : List Nat} {tg : Tg} {it : It} {q : Eo} (hs : ∀ i ∈ tgS tg, i ∈ ow) (h : tE K cA P W (.dc kx vx ow tg it q) σ H Q) :
    tDc (tI K cA P W it) (tG K cA tg) (tC1 K cA P (fun _ _ _ _ => False) q) (tE K cA P (fun _ _ _ _ => False) kx) (tE K cA P (fun _ _ _ _ => False) vx) ow σ H Q := by
  obtain ⟨c, e, s, r, re, h⟩ := h
  simp only [ev] at h
  refine (sub_i r re h fun _ _ _ _ z => z).mono fun J H1 ⟨c1, items, s1, x1, r1, re1, j1, h1⟩ => ?_
  intro D hD
  obtain ⟨f1, f2⟩ := r1.fresh hD
  by_cases lim : items.length ≤ LIM
  case neg => rw [if_pos lim] at h1; exact h1.elim
  rw [if_neg (fun z => z lim)] at h1
  generalize hf : (fun (x : Item) (s2 : Sto) => noX (rOr (bindT tg x s2 (wipeE e ow)) fun e2 => (evc P q e2 s2).bind fun k s3 => if k = true then (ev P kx e2 s3).bind fun y s4 => rOr (keyD y) fun k => (ev P vx e2 s4).bind fun z s5 => .ok (some (k, z)) s5 else .ok none s3)) = f at h1
  have hf' : ∀ x s2, f x s2 = noX (rOr (bindT tg x s2 (wipeE e ow)) fun e2 => (evc P q e2 s2).bind fun k s3 => if k = true then (ev P kx e2 s3).bind fun y s4 => rOr (keyD y) fun k => (ev P vx e2 s4).bind fun z s5 => .ok (some (k, z)) s5 else .ok none s3) := fun x s2 => by rw [← hf]
  let rest : Nat → List (Key × G.D) → Sto → Prop := fun i dacc s => Post K cA c1 H1 ((lcL f (items.drop i) s).bind fun kvs s2 => .ok (.o s2.length) (s2 ++ [some (.dct (mergeKD [] (dacc ++ kvs)))])) (okQ K Q) (WW K cA W σ)
  refine ⟨DcW K cA items.length c1 H1 D rest, ⟨items.length, rfl, Nat.zero_le _, c1, s1, [], [], Ext.grow hD, r1.grow hD, upd_same, f1, f2, .nil, Nat.le_refl _, h1⟩, ?_⟩
  rintro i m H3 ⟨rfl, hi, c3, s3, acc, dacc, x3, r3, d3, g1, g2, hv, hl, h3⟩
  obtain ⟨j2, j3, j4⟩ := j1 c3 H3 s3 x3.f x3.i r3 i
  have h3 : Post K cA c1 H1 ((lcL f (items.drop i) s3).bind fun kvs s2 => .ok (.o s2.length) (s2 ++ [some (.dct (mergeKD [] (dacc ++ kvs)))])) (okQ K Q) (WW K cA W σ) := h3
  by_cases hlt : i < items.length
  · refine .inr ⟨j2 hlt, DcW K cA items.length c1 H1 D rest (i + 1) (items.length - (i + 1)), fun H' z => ⟨_, by omega, z⟩, fun v H' hy => ?_⟩
    rw [List.drop_eq_getElem_cons hlt] at h3
    simp only [lcL, R.bind_assoc] at h3
    obtain ⟨c4, x4, r4, v4⟩ := j3 items[i] (List.getElem?_eq_getElem hlt) v H' hy
    have h3' := h3.bind0
    rw [hf'] at h3'
    have hq := noX_post h3' (fun _ _ _ _ => False)
    obtain ⟨e2, eb, hq⟩ := hq.rOr
    refine ⟨c4, wipeE e ow, s3, items[i], r4, RelE.wipe (re1.mono (x3.trans x4)) ow, v4, e2, eb, fun σ2 re2 wp => ⟨(wp ow hs).trans (wipe_wipe σ ow), ?_⟩⟩
    refine ⟨c4, e2, s3, r4, re2, (hq.bind0.mono (x3.trans x4)).imp (fun b s5 c5 H5 x5 r5 z => ?_) fun _ _ _ _ _ _ z => z.elim⟩
    have x5' := x3.trans (x4.trans x5)
    cases b with
    | false =>
      rw [if_neg Bool.false_ne_true] at z
      refine iteF ?_
      obtain ⟨k1, k2, k3⟩ := (x4.trans x5).k D _ d3 g1 g2
      have h5 := z c5 H5 x5' r5
      exact ⟨rfl, hlt, c5, s5, acc, dacc, x5', r5, k1, k2, k3, RepK.mono (x4.trans x5) hv, Nat.le_succ_of_le hl, h5⟩
    | true =>
      rw [if_pos rfl] at z
      refine iteT ?_
      refine ⟨c5, e2, s5, r5, re2.mono x5, (z.bind0.mono x5').imp (fun d6 s6 c6 H6 x6 r6 z6 y hy => ?_) fun _ _ _ _ _ _ z => z.elim⟩
      obtain ⟨kk, ekk, z6⟩ := z6.rOr
      have ey := keyD_v ekk hy
      subst ey
      have x6' := x5'.trans x6
      refine ⟨c6, e2, s6, r6, (re2.mono x5).mono x6, (z6.bind0.mono x6').imp (fun d7 s7 c7 H7 x7 r7 z7 w hw => ?_) fun _ _ _ _ _ _ z => z.elim⟩
      have x7' := x6'.trans x7
      have x47 := x4.trans (x5.trans (x6.trans x7))
      obtain ⟨k1, k2, k3⟩ := x47.k D _ d3 g1 g2
      have h7 := z7 c7 H7 x7' r7
      refine ⟨acc, kk, rfl, k1, lim_lt (by omega), rfl, hlt, c7, s7, putK acc kk w, dacc ++ [(kk, d7)], x7'.side hD, r7.side k2 k3, upd_same, k2, k3, ?_, ?_, ?_⟩
      · rw [mergeKD_snoc]
        exact putKD_rep (RepK.mono x47 hv) hw
      · have := putK_le acc kk w
        omega
      · have e3 : ∀ ys : List (Key × G.D), (dacc ++ [(kk, d7)]) ++ ys = dacc ++ ((kk, d7) :: ys) := fun ys => by simp
        show Post K cA c1 H1 ((lcL f (items.drop (i + 1)) s7).bind fun kvs s2 => .ok (.o s2.length) (s2 ++ [some (.dct (mergeKD [] ((dacc ++ [(kk, d7)]) ++ kvs)))])) (okQ K Q) (WW K cA W σ)
        simp only [e3]
        exact h7
  · have ei : i = items.length := by omega
    subst ei
    rw [List.drop_length] at h3
    have h4 : Post K cA c1 H1 (.ok (.o s3.length) (s3 ++ [some (.dct (mergeKD [] (dacc ++ [])))])) (okQ K Q) (WW K cA W σ) := h3
    rw [List.append_nil] at h4
    exact .inl ⟨j4 rfl, dct_adopt x3 r3 d3 g1 g2 hD hv h4⟩
end
end
end G

namespace G
open PySem PySem.Spec PyProof.Rows L2
open Classical
noncomputable section
section
variable {T : Tb} {N : List Str} {P : Pg} {cA : Nat → Addr} {lv : Nat}
variable {K : PySem.W.Frag} {W : WX} {σ : L2.St} {H : Hp}
theorem rd_anT {a b : E} {Q : Bool → Hp → Prop} (h : tT K cA P W (.an a b) σ H Q) : tAnd (tT K cA P W a) (tT K cA P W b) σ H Q := by
  obtain ⟨c, e, s, r, re, h⟩ := h
  simp only [ev] at h
  refine (sub_t r re h fun _ _ _ _ z => z).mono fun k H1 ⟨c1, s1, x1, r1, re1, h1⟩ => ?_
  cases k with
  | false =>
    rw [if_neg Bool.false_ne_true] at h1 ⊢
    obtain ⟨b, e1, h2⟩ := h1.ok r1
    cases e1
    exact h2
  | true =>
    rw [if_pos rfl] at h1 ⊢
    exact ⟨c1, e, s1, r1, re1, h1⟩
theorem rd_orrT {a b : E} {Q : Bool → Hp → Prop} (h : tT K cA P W (.orr a b) σ H Q) : tOr (tT K cA P W a) (tT K cA P W b) σ H Q := by
  obtain ⟨c, e, s, r, re, h⟩ := h
  simp only [ev] at h
  refine (sub_t r re h fun _ _ _ _ z => z).mono fun k H1 ⟨c1, s1, x1, r1, re1, h1⟩ => ?_
  cases k with
  | false =>
    rw [if_neg Bool.false_ne_true] at h1 ⊢
    exact ⟨c1, e, s1, r1, re1, h1⟩
  | true =>
    rw [if_pos rfl] at h1 ⊢
    obtain ⟨b, e1, h2⟩ := h1.ok r1
    cases e1
    exact h2
theorem rd_ntT {a : E} {Q : Bool → Hp → Prop} (h : tT K cA P W (.nt a) σ H Q) : tNot (tT K cA P W a) σ H Q := by
  obtain ⟨c, e, s, r, re, h⟩ := h
  simp only [ev] at h
  refine (sub_t r re h fun _ _ _ _ z => z).mono fun k H1 ⟨c1, s1, x1, r1, re1, h1⟩ => ?_
  obtain ⟨b, e1, h2⟩ := h1.ok r1
  cases e1
  exact h2
theorem tT_B {m : E} {Q : Bool → Hp → Prop} (h : tT K cA P W m σ H Q) : tB (tE K cA P W m) σ H Q := by
  obtain ⟨c, e, s, r, re, h⟩ := h
  exact ⟨c, e, s, r, re, h.imp (fun a s' c' H' _ _ ⟨b, z1, z2⟩ v hv => ⟨b, dBool_v z1 hv, z2⟩) fun _ _ _ _ _ _ z => z⟩
/-- a test that is no test of its own kind -/
def genT : Expr → Bool
  | .UnaryOp .Not _ _ => false
  | .BoolOp .. => false
  | .IfExp .. => false
  | .Compare .. => false
  | _ => true
theorem gen_true {e : Expr} {env : PySem.Env} (h : genT e = true) : ∀ whole, isTrue e env whole = (do let v ← whole; standAt e.pos; holding [v] (truthy v)) := by
  intro whole
  cases e <;> first | rfl | exact Bool.noConfusion (show false = true from h) | skip
  rename_i op x pos
  cases op <;> first | rfl | exact Bool.noConfusion (show false = true from h)
structure Snd (P : Pg) (cA : Nat → Addr) (X : Cx) (W : WX) (e : Expr) (m : E) : Prop where
  pe : PE X e (tE X.K cA P W m)
  pt : tstB m = true → PT X e (tT X.K cA P W m)
  pw : ∀ op vs pos, e = .BoolOp op vs pos → tstB m = true → PW X e (tT X.K cA P W m)
theorem Snd.gen {X : Cx} {W : WX} {e : Expr} {m : E} (h : PE X e (tE X.K cA P W m)) (g : genT e = true) : Snd P cA X W e m :=
  ⟨h, fun _ => PT.imp (pt_val h (gen_true g)) fun _ _ _ z => tT_B z, fun op vs pos z => by subst z; exact Bool.noConfusion (show false = true from g)⟩
theorem snd_rest {X : Cx} {W : WX} {y : Expr} {r : List Expr} {pos : Pos} {op : BoolOp} {m : E} (h : Snd P cA X W (restB op y r pos) m) (ht : tstB m = true) : PE X (.BoolOp op (y :: r) pos) (tE X.K cA P W m) ∧ PW X (.BoolOp op (y :: r) pos) (tT X.K cA P W m) := by
  cases r with
  | nil =>
    refine ⟨pe_one h.pe, ?_⟩
    cases op with
    | And => exact pw_and1 (h.pt ht)
    | Or => exact pw_or1 (h.pt ht)
  | cons z r => exact ⟨h.pe, h.pw _ _ _ rfl ht⟩
theorem k_ok {X : Cx} {W : WX} {d : PyData} {q : Const} {j : Nat} {pos : Pos} (h : ckK d q = true) : PE X (.Constant q j pos) (tE X.K cA P W (.k d)) := by
  have fin : ∀ v, (∀ F : Hp, Dq X.K F v d) → ∀ σ H Q, tE X.K cA P W (.k d) σ H Q → tC v σ H Q := fun v hv σ H Q h => by
    obtain ⟨c, e, s, r, re, h⟩ := h
    simp only [ev] at h
    exact h.ok r v (hv c.F)
  cases d with
  | none =>
    cases q <;> first | exact PE.imp pe_non (fin _ fun _ => .non) | exact Bool.noConfusion (show false = true from h)
  | bool b =>
    cases q <;> first | exact Bool.noConfusion (show false = true from h) | skip
    rename_i b'
    have e : b = b' := eq_of_beq h
    subst e
    exact PE.imp pe_bl (fin _ fun _ => .bl b)
  | int i =>
    cases q <;> first | exact Bool.noConfusion (show false = true from h) | skip
    rename_i b'
    have e : i = b' := of_decide_eq_true h
    subst e
    exact PE.imp pe_int (fin _ fun _ => .int i)
  | str i =>
    cases q <;> first | exact Bool.noConfusion (show false = true from h) | skip
    rename_i b'
    have e : i = b' := of_decide_eq_true h
    subst e
    exact PE.imp pe_str (fin _ fun _ => .str i)
  | list l => exact Bool.noConfusion (show false = true from h)
  | tuple l => exact Bool.noConfusion (show false = true from h)
  | dict l => exact Bool.noConfusion (show false = true from h)
theorem bi_ok {X : Cx} {b : Bi} {fl : Bool} {x : Str} {e : Expr} {ta : TE} {p pos : Pos} (h : biOk b = true) (hx : x = biN b) (hg : Gl X x) (hm : X.mg x = none) (hdb : (x == ("__debug__" : Str)) = false) (hn : x ≠ "__name__") (hc : X.calm = true) (hgd : X.A.guards = some []) (hu : X.A.units + 65 < cLine) (ha : PE X e ta) (hp : plainE e = true) :
    PE X (.Call (.Name x p) [e] [] pos) (tCB (rU1 X.K cA (biop b fl)) (tCons ta tNil)) := by
  have a1 : PA X [e] (tCons ta tNil) := pa_cons ha pa_nil (star_cons hp)
  have s1 := star_cons (es := []) (env := X.env) hp
  have s2 : (backTo pos (starEach ([] : List Expr) X.env)).any (·.1) = false := rfl
  subst hx
  cases b with
  | len => exact pe_callB (ob_len hc fl) hg hm boot_len a1 hn hdb s1 s2
  | list => exact pe_callTy (ob_list hc fl) hg hm boot_list a1 hn hdb s1 s2
  | tuple => exact pe_callTy (ob_tuple hc fl) hg hm boot_tuple a1 hn hdb s1 s2
  | abs => exact pe_callB (ob_abs hc fl) hg hm boot_abs a1 hn hdb s1 s2
  | min => exact pe_callB (ob_min hc fl) hg hm boot_min a1 hn hdb s1 s2
  | max => exact pe_callB (ob_max hc fl) hg hm boot_max a1 hn hdb s1 s2
  | int => exact pe_callTy (ob_int hc fl) hg hm boot_int a1 hn hdb s1 s2
  | all => exact pe_callB (ob_all hc fl) hg hm boot_all a1 hn hdb s1 s2
  | any => exact pe_callB (ob_any hc fl) hg hm boot_any a1 hn hdb s1 s2
  | repr => exact pe_callB (ob_repr hgd hu fl) hg hm boot_repr a1 hn hdb s1 s2
  | sum => exact pe_callB (ob_sum hc fl) hg hm boot_sum a1 hn hdb s1 s2
  | sorted => exact pe_callB (ob_sorted hc hu fl) hg hm boot_sorted a1 hn hdb s1 s2
  | dict => exact pe_callTy (ob_dict hc fl) hg hm boot_dict a1 hn hdb s1 s2
  | str => exact pe_callTy (ob_str hgd hu fl) hg hm boot_str a1 hn hdb s1 s2
theorem ty_boot {t : Ty} (ht : ∀ k, t ≠ .own k) : bootBuiltins (tyN t) = some (.type (tyName t)) := by
  cases t with
  | own k => exact (ht k rfl).elim
  | int => exact boot_int
  | bool => exact boot_bool
  | str => exact boot_str
  | tuple => exact boot_tuple
  | list => exact boot_list
  | dict => exact boot_dict
theorem XC.blk {X : Cx} {sc bs : Scope} {fb : Str → Bool} {W : WX} (hX : XC T P cA lv X N sc fb W) (s : Shared) (H : Hp) (C : Addr) (cl : List (Str × Addr)) (fp : List Addr) :
    XC T P cA lv (X.blk s H bs (compEnvC bs cl C X.env) fp) N (relS bs sc) (fun x => bs.names.lookup x == some .cell) (fun _ _ _ _ => False) := by
  refine ⟨hX.hN, hX.nd, ?_, rfl, hX.calm, hX.room, hX.gd, takes0, hX.g⟩
  show relS bs X.env.scope = relS bs sc
  rw [hX.sc]
theorem tT_C {m : E} {Q : Bool → Hp → Prop} (h : tC1 K cA P W (.so m) σ H Q) : tT K cA P W m σ H Q := by
  obtain ⟨c, e, s, r, re, h⟩ := h
  simp only [evc] at h
  refine (sub_t r re h fun _ _ _ _ z => z).mono fun k H1 ⟨c1, s1, x1, r1, re1, h1⟩ => h1.ok r1
theorem PO.imp {X : Cx} {e : Option Expr} {t t' : TO} (h : PO X e t) (k : ∀ σ H Q, t' σ H Q → t σ H Q) : PO X e t' := ⟨fun pins s σ H Q I q => h.run pins s σ H Q I (k _ _ _ q)⟩
theorem PTs.imp {X : Cx} {e : List Expr} {t t' : TT} (h : PTs X e t) (k : ∀ σ H Q, t' σ H Q → t σ H Q) : PTs X e t' := ⟨fun pins s σ H Q I q => h.run pins s σ H Q I (k _ _ _ q)⟩
theorem few1 {z : Expr} {env : PySem.Env} {pos : Pos} (h : plainE z = true) : ((backTo pos (starEach [z] env)).all (fun x => !x.1) && (backToKw pos (keywordEach [] env)).all (fun x => x.1.isSome)
      && decide ([z].length + ([] : List Keyword).length + (if ([] : List Keyword).isEmpty then 0 else 1) < 30)) = true := by
  rw [star_cons h] <;> rfl
theorem few2 {z u : Expr} {env : PySem.Env} {pos : Pos} (h : plainE z = true) (h2 : plainE u = true) : ((backTo pos (starEach [z, u] env)).all (fun x => !x.1) && (backToKw pos (keywordEach [] env)).all (fun x => x.1.isSome)
      && decide ([z, u].length + ([] : List Keyword).length + (if ([] : List Keyword).isEmpty then 0 else 1) < 30)) = true := by
  rw [star_cons h, star_cons h2] <;> rfl
theorem star_all {env : PySem.Env} {pos : Pos} : ∀ {es : List Expr}, es.all plainE = true → (backTo pos (starEach es env)).all (fun x => !x.1) = true
  | [], _ => rfl
  | e :: es, h => by
    rw [List.all_cons, Bool.and_eq_true] at h
    rw [star_cons h.1]
    show (true && (backTo pos (starEach es env)).all (fun x => !x.1)) = true
    rw [star_all h.2]
    rfl
theorem form_ok {env : PySem.Env} {pos : Pos} {es : List Expr} (h : es.all plainE = true) (hl : es.length < 20) : methodCallForm (es.length + ([] : List Keyword).length) (backTo pos (starEach es env)) (backToKw pos (keywordEach [] env)) = true := by
  unfold methodCallForm
  rw [star_all h]
  simp only [List.length_nil, Bool.and_eq_true, decide_eq_true_eq]
  refine ⟨⟨trivial, rfl⟩, ?_⟩
  have : (if (backToKw pos (keywordEach [] env)).isEmpty = true then 0 else 1) ≤ 1 := by split <;> omega
  omega
theorem m2_ok {X : Cx} {o e f : Expr} {m : Str} {apos cpos : Pos} (hb : attB o = true) (hl : apos.endLine = cpos.line) (h : plainE e = true) (h2 : plainE f = true) : M2 X o m apos e f cpos :=
  ⟨att_base hb, few2 h h2, by rw [hl]; exact beq_self_eq_true _, by rw [star_cons h, star_cons h2]; rfl⟩
theorem PK.imp {X : Cx} {kws : List Keyword} {t t' : TA} (h : PK X kws t) (m : ∀ σ H Q, t' σ H Q → t σ H Q) : PK X kws t' := ⟨fun pos pins s σ H Q I z => h.run pos pins s σ H Q I (m σ H Q z)⟩
theorem kws_named {env : PySem.Env} {pos : Pos} : ∀ {kws : List Keyword} {ks : List Str}, kws.map (·.arg) = ks.map some → (backToKw pos (keywordEach kws env)).all (·.1.isSome) = true ∧ (backToKw pos (keywordEach kws env)).filterMap (·.1) = ks ∧ (backToKw pos (keywordEach kws env)).any (·.1.isNone) = false
  | [], [], _ => ⟨rfl, rfl, rfl⟩
  | [], _ :: _, h => by cases h
  | _ :: _, [], h => by cases h
  | ⟨nm, v, p⟩ :: kws, k :: ks, h => by
    simp only [List.map_cons, List.cons.injEq] at h
    obtain ⟨rfl, h⟩ := h
    obtain ⟨a, b, c⟩ := kws_named (env := env) (pos := pos) h
    refine ⟨?_, ?_, ?_⟩
    · show (true && (backToKw pos (keywordEach kws env)).all (·.1.isSome)) = true
      rw [a]; rfl
    · show k :: (backToKw pos (keywordEach kws env)).filterMap (·.1) = k :: ks
      rw [b]
    · show (false || (backToKw pos (keywordEach kws env)).any (·.1.isNone)) = false
      rw [c]; rfl
mutual
theorem sndE : ∀ (m : E) {X : Cx} {sc : Scope} {fb : Str → Bool} {W : WX} {e : Expr}, ckE T N m sc fb e = true → XC T P cA lv X N sc fb W → Snd P cA X W e m
  | .nv, X, sc, fb, W, e, h, hX => by
    refine ⟨⟨fun pins s σ H Q I z => ?_⟩, fun z => (by cases z), fun _ _ _ _ z => by cases z⟩
    obtain ⟨c, e, s, r, re, h⟩ := z
    exact h.elim
  | .v i, X, sc, fb, W, e, h, hX => by
    cases e with
    | Name x pos =>
      have h' : (decide (N[i]? = some x) && (visB sc x && dbgB x)) = true := h
      simp only [Bool.and_eq_true, decide_eq_true_eq] at h'
      obtain ⟨h1, h2, h3⟩ := h'
      obtain ⟨g1, g2, g3⟩ := dbgB_ok h3
      refine .gen (PE.imp (pe_var (i := i) (by rw [hX.hN]; exact h1) (by rw [hX.sc]; exact visB_ok h2) g1 g2) ?_) rfl
      rintro σ H Q ⟨c, e, s, r, re, h⟩
      simp only [ev] at h
      split at h
      · rename_i d q
        obtain ⟨v, k1, k2⟩ := re.2 i d q
        exact ⟨v, k1, h.ok r v k2⟩
      · exact h.elim
    | _ => exact Bool.noConfusion (show false = true from h)
  | .k d, X, sc, fb, W, e, h, hX => by
    cases e with
    | Constant q j pos => exact .gen (k_ok h) rfl
    | _ => exact Bool.noConfusion (show false = true from h)
  | .g i, X, sc, fb, W, e, h, hX => by
    cases e with
    | Name x pos =>
      have h' : (decide (T.gls[i]? = some x) && (glB sc x && dbgB x)) = true := h
      simp only [Bool.and_eq_true, decide_eq_true_eq] at h'
      obtain ⟨h1, h2, h3⟩ := h'
      obtain ⟨g1, g2, g3⟩ := dbgB_ok h3
      obtain ⟨u, v, k1, k2, k3⟩ := hX.g.gl i x h1
      refine .gen (PE.imp (pe_glob (glB_gl h2 hX) k1 k2 g1) ?_) rfl
      rintro σ H Q ⟨c, e, s, r, re, h⟩
      simp only [ev] at h
      exact h.ok r v (k3 c.F)
    | _ => exact Bool.noConfusion (show false = true from h)
  | .tup es, X, sc, fb, W, e, h, hX => by
    cases e with
    | Tuple xs j pos => exact .gen (PE.imp (pe_tup (sndEs es h hX)) fun _ _ _ z => rd_tup z) rfl
    | _ => exact Bool.noConfusion (show false = true from h)
  | .lst fl es, X, sc, fb, W, e, h, hX => by
    cases e with
    | List xs pos => exact .gen (PE.imp (pe_lst (sndEs es h hX)) fun _ _ _ z => rd_lst z) rfl
    | _ => exact Bool.noConfusion (show false = true from h)
  | .dnew, X, sc, fb, W, e, h, hX => by
    cases e with
    | Dict ks vs pos =>
      match ks, vs, h with
      | [], [], h => exact .gen (PE.imp pe_dnewK fun _ _ _ z => rd_dnew z) rfl
      | [], _ :: _, h => exact Bool.noConfusion (show false = true from h)
      | _ :: _, _, h => exact Bool.noConfusion (show false = true from h)
    | _ => exact Bool.noConfusion (show false = true from h)
  | .bin op fl a b, X, sc, fb, W, e, h, hX => by
    cases e with
    | BinOp x o y pos =>
      have h' : (oB op o && (ckE T N a sc fb x && ckE T N b sc fb y)) = true := h
      simp only [Bool.and_eq_true] at h'
      obtain ⟨h1, h2, h3⟩ := h'
      have ho := oB_ok h1
      subst ho
      exact .gen (PE.imp (pe_op (ob_bin op fl) (sndE a h2 hX).pe (sndE b h3 hX).pe) fun _ _ _ z => rd_bin z) rfl
    | _ => exact Bool.noConfusion (show false = true from h)
  | .neg a, X, sc, fb, W, e, h, hX => by
    cases e with
    | UnaryOp op x pos =>
      cases op with
      | USub => exact .gen (PE.imp (pe_un un_neg (sndE a h hX).pe) fun _ _ _ z => rd_neg z) rfl
      | _ => exact Bool.noConfusion (show false = true from h)
    | _ => exact Bool.noConfusion (show false = true from h)
  | .nt a, X, sc, fb, W, e, h, hX => by
    cases e with
    | UnaryOp op x pos =>
      cases op with
      | Not =>
        have h' : (ckE T N a sc fb x && tstB a) = true := h
        simp only [Bool.and_eq_true] at h'
        have q := sndE a h'.1 hX
        exact ⟨PE.imp (pe_not q.pe) fun _ _ _ z => rd_nt z, fun _ => PT.imp (pt_not (q.pt h'.2)) fun _ _ _ z => rd_ntT z, fun _ _ _ z => by cases z⟩
      | _ => exact Bool.noConfusion (show false = true from h)
    | _ => exact Bool.noConfusion (show false = true from h)
  | .cmp op a b, X, sc, fb, W, e, h, hX => by
    cases e with
    | Compare x os ys pos =>
      match os, ys, h with
      | [o], [y], h =>
        have h' : (oC op o && (ckE T N a sc fb x && (ckE T N b sc fb y && plainE y))) = true := h
        simp only [Bool.and_eq_true] at h'
        obtain ⟨h1, h2, h3, h4⟩ := h'
        have ho := oC_ok h1
        subst ho
        have hu : X.A.units + 65 < cLine := by have := hX.room.un; omega
        exact ⟨PE.imp (pe_cmpR (ob_cmp hu op) (sndE a h2 hX).pe (sndE b h3 hX).pe (plain_mark _ h4)) fun _ _ _ z => rd_cmp z,
          fun _ => PT.imp (pt_cmpR (ob_cmp hu op) (sndE a h2 hX).pe (sndE b h3 hX).pe (plain_mark _ h4)) fun _ _ _ z => rd_cmp (tT_tE z), fun _ _ _ z => by cases z⟩
      | [], _, h => exact Bool.noConfusion (show false = true from h)
      | [_], [], h => exact Bool.noConfusion (show false = true from h)
      | [_], _ :: _ :: _, h => exact Bool.noConfusion (show false = true from h)
      | _ :: _ :: _, _, h => exact Bool.noConfusion (show false = true from h)
    | _ => exact Bool.noConfusion (show false = true from h)
  | .chn o1 o2 a b m, X, sc, fb, W, e, h, hX => by
    cases e with
    | Compare x os ys pos =>
      match os, ys, h with
      | [p1, p2], [y, z], h =>
        have h' : ((oC o1 p1 && oC o2 p2) && (ckE T N a sc fb x && (ckE T N b sc fb y && (ckE T N m sc fb z && plainE z)))) = true := h
        simp only [Bool.and_eq_true] at h'
        obtain ⟨⟨h1, h2⟩, h3, h4, h5, h6⟩ := h'
        have ho := oC_ok h1
        have hp := oC_ok h2
        subst ho hp
        have hu : X.A.units + 65 < cLine := by have := hX.room.un; omega
        have hm : lastMarks [aCop o1, aCop o2] [y, z] = false := plain_mark _ h6
        exact ⟨PE.imp (pe_chain (ob_cmp hu o1) (ob_cmp hu o2) (sndE a h3 hX).pe (sndE b h4 hX).pe (sndE m h5 hX).pe hm) fun _ _ _ z => rd_chn z,
          fun _ => PT.imp (pt_chain (ob_cmp hu o1) (ob_cmp hu o2) (sndE a h3 hX).pe (sndE b h4 hX).pe (sndE m h5 hX).pe hm) fun _ _ _ z => rd_chn (tT_tE z), fun _ _ _ z => by cases z⟩
      | [], _, h => exact Bool.noConfusion (show false = true from h)
      | [_], [], h => exact Bool.noConfusion (show false = true from h)
      | [_], [_], h => exact Bool.noConfusion (show false = true from h)
      | [_], _ :: _ :: _, h => exact Bool.noConfusion (show false = true from h)
      | [_, _], [], h => exact Bool.noConfusion (show false = true from h)
      | [_, _], [_], h => exact Bool.noConfusion (show false = true from h)
      | [_, _], _ :: _ :: _ :: _, h => exact Bool.noConfusion (show false = true from h)
      | _ :: _ :: _ :: _, _, h => exact Bool.noConfusion (show false = true from h)
    | _ => exact Bool.noConfusion (show false = true from h)
  | .an a b, X, sc, fb, W, e, h, hX => by
    cases e with
    | BoolOp op vs pos =>
      match op, vs, h with
      | .And, x :: y :: r, h =>
        have h' : ((ckE T N a sc fb x && tstB a) && (ckE T N b sc fb (restB .And y r pos) && tstB b)) = true := h
        simp only [Bool.and_eq_true] at h'
        obtain ⟨⟨h1, h2⟩, h3, h4⟩ := h'
        have q := sndE a h1 hX
        obtain ⟨k1, k2⟩ := snd_rest (sndE b h3 hX) h4
        have w := PW.imp (t' := tT X.K cA P W (.an a b)) (pw_and (q.pt h2) k2) fun _ _ _ z => rd_anT z
        exact ⟨PE.imp (pe_and q.pe k1) fun _ _ _ z => rd_an z, fun _ => w.pt, fun _ _ _ z _ => by cases z; exact w⟩
      | .And, [], h => exact Bool.noConfusion (show false = true from h)
      | .And, [_], h => exact Bool.noConfusion (show false = true from h)
      | .Or, _, h => exact Bool.noConfusion (show false = true from h)
    | _ => exact Bool.noConfusion (show false = true from h)
  | .orr a b, X, sc, fb, W, e, h, hX => by
    cases e with
    | BoolOp op vs pos =>
      match op, vs, h with
      | .Or, x :: y :: r, h =>
        have h' : ((ckE T N a sc fb x && tstB a) && (ckE T N b sc fb (restB .Or y r pos) && tstB b)) = true := h
        simp only [Bool.and_eq_true] at h'
        obtain ⟨⟨h1, h2⟩, h3, h4⟩ := h'
        have q := sndE a h1 hX
        obtain ⟨k1, k2⟩ := snd_rest (sndE b h3 hX) h4
        have w := PW.imp (t' := tT X.K cA P W (.orr a b)) (pw_or (q.pt h2) k2) fun _ _ _ z => rd_orrT z
        exact ⟨PE.imp (pe_or q.pe k1) fun _ _ _ z => rd_orr z, fun _ => w.pt, fun _ _ _ z _ => by cases z; exact w⟩
      | .Or, [], h => exact Bool.noConfusion (show false = true from h)
      | .Or, [_], h => exact Bool.noConfusion (show false = true from h)
      | .And, _, h => exact Bool.noConfusion (show false = true from h)
    | _ => exact Bool.noConfusion (show false = true from h)
  | .ife t a b, X, sc, fb, W, e, h, hX => by
    cases e with
    | IfExp x y z pos =>
      have h' : ((ckE T N t sc fb x && tstB t) && (ckE T N a sc fb y && ckE T N b sc fb z)) = true := h
      simp only [Bool.and_eq_true] at h'
      obtain ⟨⟨h1, h2⟩, h3, h4⟩ := h'
      exact ⟨PE.imp (pe_ifExp ((sndE t h1 hX).pt h2) (sndE a h3 hX).pe (sndE b h4 hX).pe) fun _ _ _ z => rd_ife z, fun z => (by cases z), fun _ _ _ z => by cases z⟩
    | _ => exact Bool.noConfusion (show false = true from h)
  | .ix a i, X, sc, fb, W, e, h, hX => by
    cases e with
    | Subscript x y pos =>
      have h' : (ckE T N a sc fb x && (ckE T N i sc fb y && plainE y)) = true := h
      simp only [Bool.and_eq_true] at h'
      obtain ⟨h1, h2, h3⟩ := h'
      exact .gen (PE.imp (pe_ix ob_ix (sndE a h1 hX).pe (sndE i h2 hX).pe (plain_ix h3)) fun _ _ _ z => rd_ix z) rfl
    | _ => exact Bool.noConfusion (show false = true from h)
  | .sl fl a lo hi, X, sc, fb, W, e, h, hX => by
    cases e with
    | Subscript x y pos =>
      cases y with
      | Slice l u st p2 =>
        cases st with
        | none =>
          have h' : (ckE T N a sc fb x && (ckO T N lo sc fb l && ckO T N hi sc fb u)) = true := h
          simp only [Bool.and_eq_true] at h'
          obtain ⟨h1, h2, h3⟩ := h'
          exact .gen (PE.imp (pe_slice (ob_sl fl) (sndE a h1 hX).pe (sndO lo h2 hX) (sndO hi h3 hX)) fun _ _ _ z => rd_sl z) rfl
        | some st => exact Bool.noConfusion (show false = true from h)
      | _ => exact Bool.noConfusion (show false = true from h)
    | _ => exact Bool.noConfusion (show false = true from h)
  | .rev fl a, X, sc, fb, W, e, h, hX => by
    cases e with
    | Subscript x y pos =>
      match y, h with
      | .Slice none none (some (.UnaryOp .USub (.Constant (.int 1) j p1) p2)) p3, h => exact .gen (PE.imp (pe_revL (sndE a h hX).pe) fun _ _ _ z => rd_rev z) rfl
    | _ => exact Bool.noConfusion (show false = true from h)
  | .call f es, X, sc, fb, W, e, h, hX => by
    cases e with
    | Call fn args kws pos =>
      cases fn with
      | Name x p =>
        match args, kws, h with
        | y :: ys, [], h =>
          have h' : ((match T.fns[f]? with
            | some (some z, n) => decide (z = x) && (decide (n = (y :: ys).length) && decide (kwOf T f = []))
            | _ => false) && (glB sc x && dbgB x) && ckEs T N es sc fb (y :: ys)) = true := h
          simp only [Bool.and_eq_true] at h'
          obtain ⟨⟨h1, h2, h3⟩, h4⟩ := h'
          cases ef : T.fns[f]? with
          | none => rw [ef] at h1; exact Bool.noConfusion h1
          | some zn =>
            obtain ⟨z, n⟩ := zn
            rw [ef] at h1
            cases z with
            | none => exact Bool.noConfusion h1
            | some z =>
            simp only [Bool.and_eq_true, decide_eq_true_eq] at h1
            obtain ⟨rfl, hn, hk0⟩ := h1
            obtain ⟨a, fd, ps, F, k1, k2, k3, _⟩ := hX.g.fn f z n ef
            have k3 := k3 hk0
            obtain ⟨g1, g2, g3⟩ := dbgB_ok h3
            have hp := ckEs_plain h4
            rw [List.all_cons, Bool.and_eq_true] at hp
            refine .gen (PE.imp (pe_callG F (hX.room.mono (by omega)) hX.gd (glB_gl h2 hX) k1 k2 k3 (fun σ => passAt hX.tk σ) (sndEs es h4 hX) g1 (star_cons hp.1) (star_any hp.2)) fun σ H Q z => ?_) rfl
            exact rd_call (n := n) (fun hp => (lens h4 hp).imp (fun _ _ _ _ _ _ z => ⟨by rw [hn]; exact z.1, z.2⟩) fun _ _ _ _ _ _ z => z) z
        | [], [], h =>
          have h' : ((match T.fns[f]? with
            | some (some z, n) => decide (z = x) && (decide (n = 0) && decide (kwOf T f = []))
            | _ => false) && (glB sc x && dbgB x) && ckEs T N es sc fb []) = true := h
          simp only [Bool.and_eq_true] at h'
          obtain ⟨⟨h1, h2, h3⟩, h4⟩ := h'
          cases ef : T.fns[f]? with
          | none => rw [ef] at h1; exact Bool.noConfusion h1
          | some zn =>
            obtain ⟨z, n⟩ := zn
            rw [ef] at h1
            cases z with
            | none => exact Bool.noConfusion h1
            | some z =>
            simp only [Bool.and_eq_true, decide_eq_true_eq] at h1
            obtain ⟨rfl, rfl, hk0⟩ := h1
            obtain ⟨a, fd, ps, F, k1, k2, k3, _⟩ := hX.g.fn f z 0 ef
            have k3 := k3 hk0
            obtain ⟨g1, g2, g3⟩ := dbgB_ok h3
            exact .gen (PE.imp (pe_call0G F (hX.room.mono (by omega)) hX.gd (glB_gl h2 hX) k1 k2 k3 (fun σ => passAt hX.tk σ) g1) fun σ H Q z => rd_call0 h4 z) rfl
        | [], _ :: _, h => exact Bool.noConfusion (show false = true from h)
        | _ :: _, _ :: _, h => exact Bool.noConfusion (show false = true from h)
      | _ => exact Bool.noConfusion (show false = true from h)
    | _ => exact Bool.noConfusion (show false = true from h)
  | .callk f es zs, X, sc, fb, W, e, h, hX => by
    cases e with
    | Call fn args kws pos =>
      cases fn with
      | Name x p =>
        match args, h with
        | y :: ys, h =>
          have h' : ((match T.fns[f]? with
            | some (some z, n) => decide (z = x) && (decide (n = (y :: ys).length + kws.length) && decide (kws.map (·.arg) = (kwOf T f).map some))
            | _ => false) && (glB sc x && dbgB x) && (ckEs T N es sc fb (y :: ys) && ckEs T N zs sc fb (kws.map (·.value)))) = true := h
          simp only [Bool.and_eq_true] at h'
          obtain ⟨⟨h1, h2, h3⟩, h4, h5⟩ := h'
          cases ef : T.fns[f]? with
          | none => rw [ef] at h1; exact Bool.noConfusion h1
          | some zn =>
            obtain ⟨z, n⟩ := zn
            rw [ef] at h1
            cases z with
            | none => exact Bool.noConfusion h1
            | some z =>
            simp only [Bool.and_eq_true, decide_eq_true_eq] at h1
            obtain ⟨rfl, hn, hk0⟩ := h1
            obtain ⟨a, fd, ps, F, k1, k2, _, k3⟩ := hX.g.fn f z n ef
            obtain ⟨g1, g2, g3⟩ := dbgB_ok h3
            have hp := ckEs_plain h4
            rw [List.all_cons, Bool.and_eq_true] at hp
            obtain ⟨q1, q2, q3⟩ := kws_named (env := X.env) (pos := pos) hk0
            have lk : kws.length = (kwOf T f).length := by simpa using congrArg List.length hk0
            have kb : L2.KBn X.K fd ps (y :: ys).length (kwOf T f) (fun us ws => us ++ ws) (fun vs zs => vs ++ zs) := by
              have : n - (kwOf T f).length = (y :: ys).length := by omega
              rw [this] at k3
              exact k3
            refine .gen (PE.imp (pe_callKG F (hX.room.mono (by omega)) hX.gd (glB_gl h2 hX) k1 k2 kb (fun σ => passAt hX.tk σ) (sndEs es h4 hX) (sndKs zs h5 hX) g1 q1 q2 (star_cons hp.1) (by rw [star_cons hp.1]; show (((backTo pos ((false, _) :: _)).any _) || _) = false; rw [q3, Bool.or_false]; exact star_any hp.2)) fun σ H Q z => ?_) rfl
            have e2 : n = (y :: ys).length + (kwOf T f).length := by omega
            rw [e2]
            exact rd_callk (fun hp => (lens h4 hp).imp (fun _ _ _ _ _ _ z => z) fun _ _ _ _ _ _ z => z) (fun hp => (lens h5 hp).imp (fun _ _ _ _ _ _ z => ⟨by rw [z.1, List.length_map, lk], z.2⟩) fun _ _ _ _ _ _ z => z) z
        | [], h => exact Bool.noConfusion (show false = true from h)
      | _ => exact Bool.noConfusion (show false = true from h)
    | _ => exact Bool.noConfusion (show false = true from h)
  | .bi b fl a, X, sc, fb, W, e, h, hX => by
    cases e with
    | Call fn args kws pos =>
      cases fn with
      | Name x p =>
        match args, kws, h with
        | [y], [], h =>
          have h' : (biOk b && (decide (x = biN b) && blB T sc x) && (ckE T N a sc fb y && plainE y)) = true := h
          simp only [Bool.and_eq_true, decide_eq_true_eq] at h'
          obtain ⟨⟨h1, h2, h3⟩, h4, h5⟩ := h'
          obtain ⟨g1, g2, g3, g4⟩ := blB_ok h3 hX
          exact .gen (PE.imp (bi_ok (fl := fl) h1 h2 g1 g2 g3 g4 hX.calm hX.gd (by have := hX.room.un; omega) (sndE a h4 hX).pe h5) fun _ _ _ z => rd_bi z) rfl
        | [], _, h => exact Bool.noConfusion (show false = true from h)
        | [_], _ :: _, h => exact Bool.noConfusion (show false = true from h)
        | _ :: _ :: _, [], h => exact Bool.noConfusion (show false = true from h)
        | _ :: _ :: _, _ :: _, h => exact Bool.noConfusion (show false = true from h)
      | _ => exact Bool.noConfusion (show false = true from h)
    | _ => exact Bool.noConfusion (show false = true from h)
  | .bi2 b a d, X, sc, fb, W, e, h, hX => by
    have h' : (match callN e with
      | some (x, [y, z]) => (match (generalizing := false) b with
        | .min => decide (x = "min")
        | .max => decide (x = "max")
        | _ => false) && blB T sc x && (ckE T N a sc fb y && plainE y && (ckE T N d sc fb z && plainE z))
      | _ => false) = true := h
    split at h'
    · rename_i x y z q
      obtain ⟨p, pos, rfl⟩ := callN_ok q
      simp only [Bool.and_eq_true] at h'
      obtain ⟨⟨h1, h2⟩, ⟨h3, h4⟩, h5, h6⟩ := h'
      obtain ⟨g1, g2, g3, g4⟩ := blB_ok h2 hX
      have pa := pa_cons (sndE a h3 hX).pe (pa_cons (sndE d h5 hX).pe pa_nil (star_cons h6)) (star_cons h4)
      cases b with
      | min =>
        have e1 : x = "min" := of_decide_eq_true h1
        subst e1
        exact .gen (PE.imp (pe_callB (call_min2 hX.calm) g1 g2 boot_min pa g4 g3 (star_cons h4) (star_any (by rw [List.all_cons, h6]; rfl))) fun _ _ _ z => rd_mn2 z) rfl
      | max =>
        have e1 : x = "max" := of_decide_eq_true h1
        subst e1
        exact .gen (PE.imp (pe_callB (call_max2 hX.calm) g1 g2 boot_max pa g4 g3 (star_cons h4) (star_any (by rw [List.all_cons, h6]; rfl))) fun _ _ _ z => rd_mx2 z) rfl
      | _ => exact Bool.noConfusion h1
    · cases h'
  | .isi a t, X, sc, fb, W, e, h, hX => by
    cases e with
    | Call fn args kws pos =>
      cases fn with
      | Name x p =>
        match args, kws, h with
        | [y, z], [], h =>
          have h' : (decide (x = "isinstance") && blB T sc x && (nmB z (tyN t) && blB T sc (tyN t) && (ckE T N a sc fb y && plainE y)) && bltTy t) = true := h
          simp only [Bool.and_eq_true, decide_eq_true_eq] at h'
          obtain ⟨⟨⟨h1, h2⟩, ⟨h3, h4⟩, h5, h6⟩, h7⟩ := h'
          have ht : ∀ k, t ≠ .own k := fun k q => by subst q; cases h7
          obtain ⟨p2, rfl⟩ := nmB_ok h3
          obtain ⟨g1, g2, g3, g4⟩ := blB_ok h2 hX
          obtain ⟨k1, k2, k3, k4⟩ := blB_ok h4 hX
          subst h1
          have pz : PE X (.Name (tyN t) p2) (tC (.ty (tyName t))) := pe_bltn k1 k2 (ty_boot ht) rfl k4 k3
          exact .gen (PE.imp (pe_callB (ob_isi ht) g1 g2 boot_isinstance (pa_cons (sndE a h5 hX).pe (pa_cons pz pa_nil (star_cons rfl)) (star_cons h6)) g4 g3 (star_cons h6) (star_any rfl)) fun _ _ _ z => rd_isi z) rfl
        | [], _, h => exact Bool.noConfusion (show false = true from h)
        | [_], _, h => exact Bool.noConfusion (show false = true from h)
        | [_, _], _ :: _, h => exact Bool.noConfusion (show false = true from h)
        | _ :: _ :: _ :: _, [], h => exact Bool.noConfusion (show false = true from h)
        | _ :: _ :: _ :: _, _ :: _, h => exact Bool.noConfusion (show false = true from h)
      | _ => exact Bool.noConfusion (show false = true from h)
    | _ => exact Bool.noConfusion (show false = true from h)
  | .isx a k, X, sc, fb, W, e, h, hX => by
    cases e with
    | Call fn args kws pos =>
      cases fn with
      | Name x p =>
        match args, kws, h with
        | [y, z], [], h =>
          have h' : (decide (x = "isinstance") && blB T sc x && (isxB T sc k z && (ckE T N a sc fb y && plainE y))) = true := h
          simp only [Bool.and_eq_true, decide_eq_true_eq] at h'
          obtain ⟨⟨h1, h2⟩, h3, h5, h6⟩ := h'
          obtain ⟨g1, g2, g3, g4⟩ := blB_ok h2 hX
          subst h1
          obtain ⟨z', p2, rfl, pz⟩ : ∃ z' p2, z = .Name z' p2 ∧ PE X (.Name z' p2) (tC (tyV cA k)) := by
            cases k with
            | none =>
              have h3' : (nmB z "ValueError" && (decide (("ValueError" : Str) ∈ T.fr) && glB sc "ValueError" && dbgB "ValueError")) = true := h3
              obtain ⟨k1, k2⟩ := Bool.and_eq_true_iff.mp h3'
              obtain ⟨p2, rfl⟩ := nmB_ok k1
              obtain ⟨l1, l2, l3, l4⟩ := blB_ok (x := ("ValueError" : Str)) k2 hX
              exact ⟨_, p2, rfl, pe_bltn l1 l2 PyProof.Rows.Boot.«ValueError» rfl l4 l3⟩
            | some k =>
              unfold isxB at h3
              dsimp only at h3
              cases ek : T.exs[k]? with
              | none => rw [ek] at h3; cases h3
              | some cb =>
                obtain ⟨c, b⟩ := cb
                rw [ek] at h3
                simp only [Bool.and_eq_true] at h3
                obtain ⟨k1, k2, k3⟩ := h3
                obtain ⟨p2, rfl⟩ := nmB_ok k1
                obtain ⟨l1, l2, l3⟩ := dbgB_ok k3
                exact ⟨_, p2, rfl, pe_glob (glB_gl k2 hX) (hX.g.ex.gl _ _ _ ek).1 rfl l1⟩
          exact .gen (PE.imp (pe_callB (ob_isx hX.g.ex) g1 g2 boot_isinstance (pa_cons (sndE a h5 hX).pe (pa_cons pz pa_nil (star_cons rfl)) (star_cons h6)) g4 g3 (star_cons h6) (star_any rfl)) fun _ _ _ z => rd_isx z) rfl
        | [], _, h => exact Bool.noConfusion (show false = true from h)
        | [_], _, h => exact Bool.noConfusion (show false = true from h)
        | [_, _], _ :: _, h => exact Bool.noConfusion (show false = true from h)
        | _ :: _ :: _ :: _, [], h => exact Bool.noConfusion (show false = true from h)
        | _ :: _ :: _ :: _, _ :: _, h => exact Bool.noConfusion (show false = true from h)
      | _ => exact Bool.noConfusion (show false = true from h)
    | _ => exact Bool.noConfusion (show false = true from h)
  | .app a x, X, sc, fb, W, e, h, hX => by
    cases e with
    | Call fn args kws pos =>
      cases fn with
      | Attribute y m ap =>
        match args, kws, h with
        | [z], [], h =>
          have h' : (decide (m = "append") && (decide (ap.endLine = pos.line) && attB y) && (ckE T N a sc fb y && (ckE T N x sc fb z && plainE z))) = true := h
          simp only [Bool.and_eq_true, decide_eq_true_eq] at h'
          obtain ⟨⟨h1, h2, h3⟩, h4, h5, h6⟩ := h'
          subst h1
          exact .gen (PE.imp (pe_bm PySem.F.plainAttrs_list PySem.F.slot_list_append PySem.F.type_list_append ob_app (sndE a h4 hX).pe (pa_cons (sndE x h5 hX).pe pa_nil (star_cons h6)) (att_base h3) (few1 h6) (by rw [h2]; exact beq_self_eq_true _) (star_cons h6) rfl) fun _ _ _ z => rd_app z) rfl
        | [], _, h => exact Bool.noConfusion (show false = true from h)
        | [_], _ :: _, h => exact Bool.noConfusion (show false = true from h)
        | _ :: _ :: _, [], h => exact Bool.noConfusion (show false = true from h)
        | _ :: _ :: _, _ :: _, h => exact Bool.noConfusion (show false = true from h)
      | _ => exact Bool.noConfusion (show false = true from h)
    | _ => exact Bool.noConfusion (show false = true from h)
  | .ins a i x, X, sc, fb, W, e, h, hX => by
    cases e with
    | Call fn args kws pos =>
      cases fn with
      | Attribute y m ap =>
        match args, kws, h with
        | [z, u], [], h =>
          have h' : (decide (m = "insert") && (decide (ap.endLine = pos.line) && attB y) && (ckE T N a sc fb y && (ckE T N i sc fb z && plainE z && (ckE T N x sc fb u && plainE u)))) = true := h
          simp only [Bool.and_eq_true, decide_eq_true_eq] at h'
          obtain ⟨⟨h1, h2, h3⟩, h4, ⟨h5, h6⟩, h7, h8⟩ := h'
          subst h1
          exact .gen (PE.imp (pe_bm PySem.F.plainAttrs_list PySem.F.slot_list_insert PySem.F.type_list_insert ob_ins (sndE a h4 hX).pe (pa_cons (sndE i h5 hX).pe (pa_cons (sndE x h7 hX).pe pa_nil (star_cons h8)) (star_cons h6)) (att_base h3) (few2 h6 h8) (by rw [h2]; exact beq_self_eq_true _) (star_cons h6) (star_any (by rw [List.all_cons, h8]; rfl))) fun _ _ _ z => rd_ins z) rfl
        | [], _, h => exact Bool.noConfusion (show false = true from h)
        | [_], _, h => exact Bool.noConfusion (show false = true from h)
        | [_, _], _ :: _, h => exact Bool.noConfusion (show false = true from h)
        | _ :: _ :: _ :: _, [], h => exact Bool.noConfusion (show false = true from h)
        | _ :: _ :: _ :: _, _ :: _, h => exact Bool.noConfusion (show false = true from h)
      | _ => exact Bool.noConfusion (show false = true from h)
    | _ => exact Bool.noConfusion (show false = true from h)
  | .lc fl el ow tg it q, X, sc, fb, W, e, h, hX => by
    cases e with
    | ListComp x gs bs pos =>
      match gs, h with
      | [⟨t, i, ifs, 0⟩], h =>
        have h' : (blkC N sc bs (ownOf N ow) && (decide ((ownOf N ow).map (·.2) = ow) && (tgS tg).all (fun j => decide (j ∈ ow))) &&
          (ckI T N it sc fb t i && plainE i) && (ckG N (relS bs sc) (fun x => bs.names.lookup x == some .cell) tg t && (ckC T N q (relS bs sc) (fun x => bs.names.lookup x == some .cell) ifs && ckE T N el (relS bs sc) (fun x => bs.names.lookup x == some .cell) x))) = true := h
        simp only [Bool.and_eq_true, decide_eq_true_eq, List.all_eq_true] at h'
        obtain ⟨⟨⟨h1, h2, h3⟩, h4, h5⟩, h6, h7, h8⟩ := h'
        have ok : BlkOk X.N X.env.scope bs (ownOf N ow) := by
          rw [hX.hN, hX.sc]
          exact blkOk_by h1
        have q1 := pe_lc (X := X) (elt := x) (tg := t) (iter := i) (ifs := ifs) (scope := bs) (own := ownOf N ow) (pos := pos) (g := tG X.K cA tg) (tt := tC1 X.K cA P (fun _ _ _ _ => False) q) (te := tE X.K cA P (fun _ _ _ _ => False) el) hX.calm hX.nd (sndI it h4 hX) ok
          (fun s H C cl fp => by
            have hB := hX.blk s H C cl fp (bs := bs)
            refine pg_ck (X := X.blk s H bs (compEnvC bs cl C X.env) fp) (N := N) ?_ hB.hN hB.nd hB.calm
            rw [hB.sc, hB.fb]
            exact h6)
          (fun s H C cl fp => sndC q h7 (hX.blk s H C cl fp)) (fun s H C cl fp => (sndE el h8 (hX.blk s H C cl fp)).pe) (plain_set h5)
        rw [h2] at q1
        exact .gen (PE.imp q1 fun _ _ _ z => rd_lc h3 z) rfl
    | _ => exact Bool.noConfusion (show false = true from h)
  | .lck fl el ow tg a q, X, sc, fb, W, e, h, hX => by
    cases e with
    | ListComp x gs bs pos =>
      match gs, h with
      | [⟨t, i, ifs, 0⟩], h =>
        have h' : (blkC N sc bs (ownOf N ow) && (decide ((ownOf N ow).map (·.2) = ow) && (tgS tg).all (fun j => decide (j ∈ ow))) &&
          (ckE T N a sc fb i && plainE i) && (ckG N (relS bs sc) (fun x => bs.names.lookup x == some .cell) tg t && (ckC T N q (relS bs sc) (fun x => bs.names.lookup x == some .cell) ifs && ckE T N el (relS bs sc) (fun x => bs.names.lookup x == some .cell) x))) = true := h
        simp only [Bool.and_eq_true, decide_eq_true_eq, List.all_eq_true] at h'
        obtain ⟨⟨⟨h1, h2, h3⟩, h4, h5⟩, h6, h7, h8⟩ := h'
        have ok : BlkOk X.N X.env.scope bs (ownOf N ow) := by
          rw [hX.hN, hX.sc]
          exact blkOk_by h1
        have q1 := pe_lc (X := X) (elt := x) (tg := t) (iter := i) (ifs := ifs) (scope := bs) (own := ownOf N ow) (pos := pos) (g := tG X.K cA tg) (tt := tC1 X.K cA P (fun _ _ _ _ => False) q) (te := tE X.K cA P (fun _ _ _ _ => False) el) hX.calm hX.nd (pi_list (tg := t) (sndE a h4 hX).pe) ok
          (fun s H C cl fp => by
            have hB := hX.blk s H C cl fp (bs := bs)
            refine pg_ck (X := X.blk s H bs (compEnvC bs cl C X.env) fp) (N := N) ?_ hB.hN hB.nd hB.calm
            rw [hB.sc, hB.fb]
            exact h6)
          (fun s H C cl fp => sndC q h7 (hX.blk s H C cl fp)) (fun s H C cl fp => (sndE el h8 (hX.blk s H C cl fp)).pe) (plain_set h5)
        rw [h2] at q1
        exact .gen (PE.imp q1 fun _ _ _ z => rd_lck h3 z) rfl
    | _ => exact Bool.noConfusion (show false = true from h)
  | .lc2 fl el ow tg it tg2 it2 ow2 q, X, sc, fb, W, e, h, hX => by
    cases e with
    | ListComp x gs bs pos =>
      match gs, h with
      | [⟨t, i, [], 0⟩, ⟨t2, i2, ifs, 0⟩], h =>
        have h' : (blkC N sc bs (ownOf N ow) && (decide ((ownOf N ow).map (·.2) = ow) && (tgS tg).all (fun j => decide (j ∈ ow)) && ((tgS tg2).all (fun j => decide (j ∈ ow2)) && ow2.all (fun j => decide (j ∈ ow)))) &&
          (ckI T N it sc fb t i && plainE i) && (ckG N (relS bs sc) (fun x => bs.names.lookup x == some .cell) tg t && ((ckI T N it2 (relS bs sc) (fun x => bs.names.lookup x == some .cell) t2 i2 && plainE i2) && ckG N (relS bs sc) (fun x => bs.names.lookup x == some .cell) tg2 t2) && (ckC T N q (relS bs sc) (fun x => bs.names.lookup x == some .cell) ifs && ckE T N el (relS bs sc) (fun x => bs.names.lookup x == some .cell) x))) = true := h
        simp only [Bool.and_eq_true, decide_eq_true_eq, List.all_eq_true] at h'
        obtain ⟨⟨⟨h1, ⟨h2, h3⟩, h31, h32⟩, h4, h5⟩, ⟨h6, ⟨h61, h62⟩, h63⟩, h7, h8⟩ := h'
        have ok : BlkOk X.N X.env.scope bs (ownOf N ow) := by
          rw [hX.hN, hX.sc]
          exact blkOk_by h1
        have q1 := pe_lc2 (X := X) (elt := x) (tg := t) (iter := i) (ifs := []) (tg1 := t2) (iter1 := i2) (ifs1 := ifs) (scope := bs) (own := ownOf N ow) (vs1 := ow2) (pos := pos) (g := tG X.K cA tg) (g1 := tG X.K cA tg2) (tt := tC1 X.K cA P (fun _ _ _ _ => False) .no) (tt1 := tC1 X.K cA P (fun _ _ _ _ => False) q) (wi1 := tI X.K cA P (fun _ _ _ _ => False) it2) (te := tE X.K cA P (fun _ _ _ _ => False) el) hX.calm hX.nd (sndI it h4 hX) ok (fun j hj => by rw [h2]; exact h32 j hj)
          (fun s H C cl fp => by
            have hB := hX.blk s H C cl fp (bs := bs)
            refine pg_ck (X := X.blk s H bs (compEnvC bs cl C X.env) fp) (N := N) ?_ hB.hN hB.nd hB.calm
            rw [hB.sc, hB.fb]
            exact h6)
          (fun s H C cl fp => sndC .no rfl (hX.blk s H C cl fp)) (fun s H C cl fp => sndI it2 h61 (hX.blk s H C cl fp))
          (fun s H C cl fp => by
            have hB := hX.blk s H C cl fp (bs := bs)
            refine pg_ck (X := X.blk s H bs (compEnvC bs cl C X.env) fp) (N := N) ?_ hB.hN hB.nd hB.calm
            rw [hB.sc, hB.fb]
            exact h63)
          (fun s H C cl fp => sndC q h7 (hX.blk s H C cl fp)) (fun s H C cl fp => (sndE el h8 (hX.blk s H C cl fp)).pe) (plain_set h5) (fun env => plain_set h62)
        rw [h2] at q1
        exact .gen (PE.imp q1 fun _ _ _ z => rd_lc2 h3 h31 z) rfl
    | _ => exact Bool.noConfusion (show false = true from h)
  | .frz a, X, sc, fb, W, e, h, hX => by
    refine ⟨PE.imp (sndE a h hX).pe fun _ _ _ z => rd_frz z, fun z => (by cases z), fun _ _ _ _ z => by cases z⟩
  | .fld a f, X, sc, fb, W, e, h, hX => by
    cases e with
    | Attribute x n pos =>
      have h' : (decide (f = n) && (attB x && ckE T N a sc fb x)) = true := h
      simp only [Bool.and_eq_true, decide_eq_true_eq] at h'
      obtain ⟨rfl, h2, h3⟩ := h'
      exact .gen (PE.imp (pe_xg (sndE a h3 hX).pe (att_base h2)) fun _ _ _ z => rd_fld hX.g.ex z) rfl
    | _ => exact Bool.noConfusion (show false = true from h)
  | .ifd k a f, X, sc, fb, W, e, h, hX => by
    cases e with
    | Attribute x n pos =>
      have h' : (decide (1000 ≤ k) && (match T.cls[k - 1000]? with
        | some C => decide (f ∈ C.flds)
        | none => false) && (decide (f = n) && (attB x && ckE T N a sc fb x))) = true := h
      simp only [Bool.and_eq_true, decide_eq_true_eq] at h'
      obtain ⟨⟨h1, h2⟩, rfl, h3, h4⟩ := h'
      cases ec : T.cls[k - 1000]? with
      | none => rw [ec] at h2; exact Bool.noConfusion h2
      | some C =>
        rw [ec] at h2
        have CF := hX.g.cl _ C ec
        have ek : 1000 + (k - 1000) = k := by omega
        rw [ek] at CF
        exact .gen (PE.imp (pe_fld (sndE a h4 hX).pe (att_base h3)) fun _ _ _ z => rd_ifd CF.cl (CF.na f (of_decide_eq_true h2)) z) rfl
    | _ => exact Bool.noConfusion (show false = true from h)
  | .mk k f es, X, sc, fb, W, e, h, hX => by
    have h' : (decide (1000 ≤ k) && (match callN e with
      | some (x, y :: ys) => (match T.cls[k - 1000]? with
        | some C => decide (C.nm = x) && (decide (C.ini = f) && (match T.fns[f]? with
          | some (none, n) => decide (n = (y :: ys).length + 1)
          | _ => false))
        | none => false) && (glB sc x && dbgB x) && ckEs T N es sc fb (y :: ys)
      | _ => false)) = true := h
    rw [Bool.and_eq_true] at h'
    obtain ⟨h0, h'⟩ := h'
    have h0 := of_decide_eq_true h0
    split at h'
    · rename_i x y ys q
      obtain ⟨p, pos, rfl⟩ := callN_ok q
      simp only [Bool.and_eq_true] at h'
      obtain ⟨⟨h1, h2, h3⟩, h4⟩ := h'
      split at h1
      · rename_i C ec
        simp only [Bool.and_eq_true, decide_eq_true_eq] at h1
        obtain ⟨rfl, rfl, h1⟩ := h1
        split at h1
        · rename_i n en
          have hn := of_decide_eq_true h1
          have CF := hX.g.cl _ C ec
          have ek : 1000 + (k - 1000) = k := by omega
          rw [ek] at CF
          obtain ⟨f, fd, ps, M, F, B⟩ := CF.ini n en
          obtain ⟨g1, g2, g3⟩ := dbgB_ok h3
          have hp := ckEs_plain h4
          rw [List.all_cons, Bool.and_eq_true] at hp
          refine .gen (PE.imp (pe_makeG M F (hX.room.mono (by omega)) hX.gd (glB_gl h2 hX) CF.nm B (fun σ => passAt hX.tk σ) (sndEs es h4 hX) g1 (star_cons hp.1) (star_any hp.2)) fun σ H Q z => ?_) rfl
          subst hn
          exact rd_mk (n := (y :: ys).length) (fun hp => (lens h4 hp).imp (fun _ _ _ _ _ _ z => ⟨z.1, z.2⟩) fun _ _ _ _ _ _ z => z) z
        · cases h1
      · cases h1
    · cases h'
  | .mc k m f a es, X, sc, fb, W, e, h, hX => by
    have h' : (decide (1000 ≤ k) && (match callA e with
      | some (o, n, ys) => (match T.cls[k - 1000]? with
        | some C => decide ((m, f) ∈ C.mths) && (match T.fns[f]? with
          | some (none, j) => decide (j = ys.length + 1) && decide (ys.length < 20)
          | _ => false)
        | none => false) && decide (n = m) && (ckE T N a sc fb o && ckEs T N es sc fb ys)
      | _ => false)) = true := h
    rw [Bool.and_eq_true] at h'
    obtain ⟨h0, h'⟩ := h'
    have h0 := of_decide_eq_true h0
    split at h'
    · rename_i o n ys q
      obtain ⟨ap, cp, rfl, l1, l2⟩ := callA_ok q
      simp only [Bool.and_eq_true] at h'
      obtain ⟨⟨h1, h2⟩, h3, h4⟩ := h'
      have h2 := of_decide_eq_true h2
      subst h2
      split at h1
      · rename_i C ec
        simp only [Bool.and_eq_true, decide_eq_true_eq] at h1
        obtain ⟨hm, h1⟩ := h1
        split at h1
        · rename_i j en
          simp only [Bool.and_eq_true, decide_eq_true_eq] at h1
          obtain ⟨hn, hl⟩ := h1
          have CF := hX.g.cl _ C ec
          have ek : 1000 + (k - 1000) = k := by omega
          rw [ek] at CF
          obtain ⟨b, fd, ps, M, F, B⟩ := CF.mt _ f hm j en
          have hp := ckEs_plain h4
          have key := eval_meth (o := o) (m := n) (apos := ap) (pos := cp) (es := ys) (env := X.env) (att_base l2) (by rw [l1]; exact beq_self_eq_true _) (form_ok hp hl)
          cases ys with
          | nil =>
            subst hn
            refine .gen (PE.imp (pe_meth0G (sndE a h3 hX).pe CF.cl M F (hX.room.mono (by omega)) hX.gd B (fun σ => passAt hX.tk σ) key) fun σ H Q z => ?_) rfl
            have z2 := rd_mc (n := 0) (fun hp => (lens h4 hp).imp (fun _ _ _ _ _ _ z => ⟨z.1, z.2⟩) fun _ _ _ _ _ _ z => z) z
            refine tE.mono z2 fun v H' ⟨b1, dx, fs, e1, e2, e3, z3⟩ => ⟨b1, dx, fs, e1, e2, e3, ?_⟩
            cases es with
            | nil =>
              obtain ⟨c, e, s, r, re, z3⟩ := z3
              exact z3.ok r [] .nil
            | cons _ _ => exact Bool.noConfusion (show false = true from h4)
          | cons y ys =>
            rw [List.all_cons, Bool.and_eq_true] at hp
            subst hn
            refine .gen (PE.imp (pe_methG (sndE a h3 hX).pe CF.cl M F (hX.room.mono (by omega)) hX.gd B (fun σ => passAt hX.tk σ) (sndEs es h4 hX) (star_cons hp.1) (star_any hp.2) key) fun σ H Q z => ?_) rfl
            exact rd_mc (n := (y :: ys).length) (fun hp => (lens h4 hp).imp (fun _ _ _ _ _ _ z => ⟨z.1, z.2⟩) fun _ _ _ _ _ _ z => z) z
        · cases h1
      · cases h1
    · cases h'
  | .dsp k v, X, sc, fb, W, e, h, hX => by
    cases e with
    | Dict ks vs pos =>
      match ks, vs, h with
      | [some a], [b], h =>
        have h' : (ckE T N k sc fb a && ckE T N v sc fb b) = true := h
        obtain ⟨h1, h2⟩ := Bool.and_eq_true_iff.mp h'
        exact .gen (PE.imp (pe_disp (pps_cons (sndE k h1 hX).pe (sndE v h2 hX).pe pps_nil) rfl rfl (by simp) (by show 1 ≤ 15; decide)) fun _ _ _ z => rd_dsp z) rfl
      | [], _, h => exact Bool.noConfusion (show false = true from h)
      | [some _], [], h => exact Bool.noConfusion (show false = true from h)
      | [some _], _ :: _ :: _, h => exact Bool.noConfusion (show false = true from h)
      | [none], _, h => exact Bool.noConfusion (show false = true from h)
      | some _ :: _ :: _, _, h => exact Bool.noConfusion (show false = true from h)
      | none :: _ :: _, _, h => exact Bool.noConfusion (show false = true from h)
    | _ => exact Bool.noConfusion (show false = true from h)
  | .dix a i, X, sc, fb, W, e, h, hX => by
    cases e with
    | Subscript x y pos =>
      have h' : (ckE T N a sc fb x && (ckE T N i sc fb y && plainE y)) = true := h
      simp only [Bool.and_eq_true] at h'
      obtain ⟨h1, h2, h3⟩ := h'
      exact .gen (PE.imp (pe_dget (by have := hX.room.un; omega) (sndE a h1 hX).pe (sndE i h2 hX).pe (fun ov iv => by cases y <;> first | rfl | exact Bool.noConfusion (show false = true from h3))) fun _ _ _ z => rd_dix z) rfl
    | _ => exact Bool.noConfusion (show false = true from h)
  | .dgt d k z, X, sc, fb, W, e, h, hX => by
    have h' : (match callA e with
      | some (y, m, [u, v]) => decide (m = "get") && (ckE T N d sc fb y && (ckE T N k sc fb u && plainE u && (ckE T N z sc fb v && plainE v)))
      | _ => false) = true := h
    split at h'
    · rename_i y m u v q
      obtain ⟨ap, cp, rfl, l1, l2⟩ := callA_ok q
      simp only [Bool.and_eq_true, decide_eq_true_eq] at h'
      obtain ⟨rfl, h2, ⟨h3, h4⟩, h5, h6⟩ := h'
      exact .gen (PE.imp (pe_dget2 (by have := hX.room.un; omega) (sndE d h2 hX).pe (sndE k h3 hX).pe (sndE z h5 hX).pe (m2_ok l2 l1 h4 h6)) fun _ _ _ z => rd_dgt z) rfl
    · cases h'
  | .din ng k d, X, sc, fb, W, e, h, hX => by
    cases e with
    | Compare x os ys pos =>
      match os, ys, h with
      | [o], [y], h =>
        have h' : ((match (generalizing := false) ng, o with
          | false, .In => true
          | true, .NotIn => true
          | _, _ => false) && (ckE T N k sc fb x && (ckE T N d sc fb y && plainE y))) = true := h
        simp only [Bool.and_eq_true] at h'
        obtain ⟨h1, h2, h3, h4⟩ := h'
        have hu : X.A.units + 1 < cLine := by have := hX.room.un; omega
        have fin : ∀ {t : TE}, PC X o x y t → (∀ σ H Q, tE X.K cA P W (.din ng k d) σ H Q → t σ H Q) → Snd P cA X W (.Compare x [o] [y] pos) (.din ng k d) := fun pc im =>
          ⟨PE.imp (pe_cmp pc (plain_mark _ h4)) im, fun _ => PT.imp (pt_cmp pc (plain_mark _ h4)) fun _ _ _ z => im _ _ _ (tT_tE z), fun _ _ _ z => by cases z⟩
        cases ng with
        | false =>
          cases o <;> first | exact Bool.noConfusion h1 | exact fin (pc_din hu (sndE k h2 hX).pe (sndE d h3 hX).pe) fun _ _ _ z => rd_din z
        | true =>
          cases o <;> first | exact Bool.noConfusion h1 | exact fin (pc_dnotin hu (sndE k h2 hX).pe (sndE d h3 hX).pe) fun _ _ _ z => rd_dni z
      | [], _, h => exact Bool.noConfusion (show false = true from h)
      | [_], [], h => exact Bool.noConfusion (show false = true from h)
      | [_], _ :: _ :: _, h => exact Bool.noConfusion (show false = true from h)
      | _ :: _ :: _, _, h => exact Bool.noConfusion (show false = true from h)
    | _ => exact Bool.noConfusion (show false = true from h)
  | .sit fl d, X, sc, fb, W, e, h, hX => by
    have h' : (match callN e with
      | some (x, [z]) => decide (x = "sorted") && blB T sc x && (match callA z with
        | some (y, m, []) => decide (m = "items") && ckE T N d sc fb y
        | _ => false)
      | _ => false) = true := h
    split at h'
    · rename_i x z q
      obtain ⟨p, pos, rfl⟩ := callN_ok q
      simp only [Bool.and_eq_true, decide_eq_true_eq] at h'
      obtain ⟨⟨rfl, h2⟩, h3⟩ := h'
      split at h3
      · rename_i y m q2
        obtain ⟨ap, cp, rfl, l1, l2⟩ := callA_ok q2
        simp only [Bool.and_eq_true, decide_eq_true_eq] at h3
        obtain ⟨rfl, h4⟩ := h3
        obtain ⟨g1, g2, g3, g4⟩ := blB_ok h2 hX
        exact .gen (PE.imp (pe_callB (cr_srtIt hX.calm (by have := hX.room.un; omega)) g1 g2 boot_sorted (pa_cons (pe_bm0 PySem.F.plainAttrs_dict PySem.F.slot_dict_items PySem.F.type_dict_items mt_itemsK (sndE d h4 hX).pe (att_base l2) (by rw [l1]; exact beq_self_eq_true _)) pa_nil) g4 g3) fun _ _ _ z => rd_sit z) rfl
      · cases h3
    · cases h'
  | .lit fl d, X, sc, fb, W, e, h, hX => by
    have h' : (match callN e with
      | some (x, [z]) => decide (x = "list") && blB T sc x && (match callA z with
        | some (y, m, []) => decide (m = "items") && ckE T N d sc fb y
        | _ => false)
      | _ => false) = true := h
    split at h'
    · rename_i x z q
      obtain ⟨p, pos, rfl⟩ := callN_ok q
      simp only [Bool.and_eq_true, decide_eq_true_eq] at h'
      obtain ⟨⟨rfl, h2⟩, h3⟩ := h'
      split at h3
      · rename_i y m q2
        obtain ⟨ap, cp, rfl, l1, l2⟩ := callA_ok q2
        simp only [Bool.and_eq_true, decide_eq_true_eq] at h3
        obtain ⟨rfl, h4⟩ := h3
        obtain ⟨g1, g2, g3, g4⟩ := blB_ok h2 hX
        exact .gen (PE.imp (LiI.pe_listItems hX.calm (sndE d h4 hX).pe g1 g2 boot_list (att_base l2) (by rw [l1]; exact beq_self_eq_true _)) fun _ _ _ z => rd_lit z) rfl
      · cases h3
    · cases h'
  | .srs fl a, X, sc, fb, W, e, h, hX => by
    have h' : (match callN e with
      | some (x, [z]) => decide (x = "sorted") && blB T sc x && (match callN z with
        | some (u, [y]) => decide (u = "set") && blB T sc u && (ckE T N a sc fb y && plainE y)
        | _ => false)
      | _ => false) = true := h
    split at h'
    · rename_i x z q
      obtain ⟨p, pos, rfl⟩ := callN_ok q
      simp only [Bool.and_eq_true, decide_eq_true_eq] at h'
      obtain ⟨⟨rfl, h2⟩, h3⟩ := h'
      split at h3
      · rename_i u y q2
        obtain ⟨p2, pos2, rfl⟩ := callN_ok q2
        simp only [Bool.and_eq_true, decide_eq_true_eq] at h3
        obtain ⟨⟨rfl, h4⟩, h5, h6⟩ := h3
        obtain ⟨g1, g2, g3, g4⟩ := blB_ok h2 hX
        obtain ⟨k1, k2, k3, k4⟩ := blB_ok h4 hX
        exact .gen (PE.imp (pe_callB (cr_sortedSet hX.calm) g1 g2 boot_sorted (pa_cons (pe_callTy (cr_setL hX.calm) k1 k2 PyProof.Rows.boot_set (pa_cons (sndE a h5 hX).pe pa_nil (star_cons h6)) k4 k3 (star_cons h6) rfl) pa_nil) g4 g3) fun _ _ _ z => rd_srs z) rfl
      · cases h3
    · cases h'
  | .lns a, X, sc, fb, W, e, h, hX => by
    have h' : (match callN e with
      | some (x, [z]) => decide (x = "len") && blB T sc x && (match callN z with
        | some (u, [y]) => decide (u = "set") && blB T sc u && (ckE T N a sc fb y && plainE y)
        | _ => false)
      | _ => false) = true := h
    split at h'
    · rename_i x z q
      obtain ⟨p, pos, rfl⟩ := callN_ok q
      simp only [Bool.and_eq_true, decide_eq_true_eq] at h'
      obtain ⟨⟨rfl, h2⟩, h3⟩ := h'
      split at h3
      · rename_i u y q2
        obtain ⟨p2, pos2, rfl⟩ := callN_ok q2
        simp only [Bool.and_eq_true, decide_eq_true_eq] at h3
        obtain ⟨⟨rfl, h4⟩, h5, h6⟩ := h3
        obtain ⟨g1, g2, g3, g4⟩ := blB_ok h2 hX
        obtain ⟨k1, k2, k3, k4⟩ := blB_ok h4 hX
        exact .gen (PE.imp (pe_callB cr_lenSet g1 g2 boot_len (pa_cons (pe_callTy (cr_setL hX.calm) k1 k2 PyProof.Rows.boot_set (pa_cons (sndE a h5 hX).pe pa_nil (star_cons h6)) k4 k3 (star_cons h6) rfl) pa_nil) g4 g3) fun _ _ _ z => rd_lns z) rfl
      · cases h3
    · cases h'
  | .lrg fl a, X, sc, fb, W, e, h, hX => by
    have h' : (match callN e with
      | some (x, [z]) => decide (x = "list") && blB T sc x && (match callN z with
        | some (u, [y]) => decide (u = "range") && blB T sc u && (ckE T N a sc fb y && plainE y)
        | _ => false)
      | _ => false) = true := h
    split at h'
    · rename_i x z q
      obtain ⟨p, pos, rfl⟩ := callN_ok q
      simp only [Bool.and_eq_true, decide_eq_true_eq] at h'
      obtain ⟨⟨rfl, h2⟩, h3⟩ := h'
      split at h3
      · rename_i u y q2
        obtain ⟨p2, pos2, rfl⟩ := callN_ok q2
        simp only [Bool.and_eq_true, decide_eq_true_eq] at h3
        obtain ⟨⟨rfl, h4⟩, h5, h6⟩ := h3
        obtain ⟨g1, g2, g3, g4⟩ := blB_ok h2 hX
        obtain ⟨k1, k2, k3, k4⟩ := blB_ok h4 hX
        exact .gen (PE.imp (pe_listRg hX.calm g1 g2 (prg_1 k1 k2 (sndE a h5 hX).pe (star_cons h6))) fun _ _ _ z => rd_lrg z) rfl
      · cases h3
    · cases h'
  | .idx a x, X, sc, fb, W, e, h, hX => by
    have h' : (match callA e with
      | some (y, m, [z]) => decide (m = "index") && (ckE T N a sc fb y && (ckE T N x sc fb z && plainE z))
      | _ => false) = true := h
    split at h'
    · rename_i y m z q
      obtain ⟨ap, cp, rfl, l1, l2⟩ := callA_ok q
      simp only [Bool.and_eq_true, decide_eq_true_eq] at h'
      obtain ⟨rfl, h2, h3, h4⟩ := h'
      exact .gen (PE.imp (pe_bm PySem.F.plainAttrs_list PySem.F.slot_list_index PySem.F.type_list_index (mt_indexD (by have := hX.room.un; omega)) (sndE a h2 hX).pe (pa_cons (sndE x h3 hX).pe pa_nil (star_cons h4)) (att_base l2) (few1 h4) (by rw [l1]; exact beq_self_eq_true _) (star_cons h4) rfl) fun _ _ _ z => rd_idx z) rfl
    · cases h'
  | .cnt a x, X, sc, fb, W, e, h, hX => by
    have h' : (match callA e with
      | some (y, m, [z]) => decide (m = "count") && (ckE T N a sc fb y && (ckE T N x sc fb z && plainE z))
      | _ => false) = true := h
    split at h'
    · rename_i y m z q
      obtain ⟨ap, cp, rfl, l1, l2⟩ := callA_ok q
      simp only [Bool.and_eq_true, decide_eq_true_eq] at h'
      obtain ⟨rfl, h2, h3, h4⟩ := h'
      exact .gen (PE.imp (pe_bm PySem.F.plainAttrs_list PySem.F.slot_list_count PySem.F.type_list_count mt_lcount (sndE a h2 hX).pe (pa_cons (sndE x h3 hX).pe pa_nil (star_cons h4)) (att_base l2) (few1 h4) (by rw [l1]; exact beq_self_eq_true _) (star_cons h4) rfl) fun _ _ _ z => rd_cnt z) rfl
    · cases h'
  | .up d, X, sc, fb, W, e, h, hX => by
    have h' : (match callA e with
      | some (y, m, []) => decide (m = "upper") && ckE T N d sc fb y
      | _ => false) = true := h
    split at h'
    · rename_i y m q
      obtain ⟨ap, cp, rfl, l1, l2⟩ := callA_ok q
      simp only [Bool.and_eq_true, decide_eq_true_eq] at h'
      obtain ⟨rfl, h2⟩ := h'
      exact .gen (PE.imp (pe_upper (sndE d h2 hX).pe (att_base l2) (by rw [l1]; exact beq_self_eq_true _)) fun _ _ _ z => rd_up z) rfl
    · cases h'
  | .clr d, X, sc, fb, W, e, h, hX => by
    have h' : (match callA e with
      | some (y, m, []) => decide (m = "clear") && ckE T N d sc fb y
      | _ => false) = true := h
    split at h'
    · rename_i y m q
      obtain ⟨ap, cp, rfl, l1, l2⟩ := callA_ok q
      simp only [Bool.and_eq_true, decide_eq_true_eq] at h'
      obtain ⟨rfl, h2⟩ := h'
      exact .gen (PE.imp (pe_dclear (sndE d h2 hX).pe (att_base l2) (by rw [l1]; exact beq_self_eq_true _)) fun _ _ _ z => rd_clr z) rfl
    · cases h'
  | .dc kx vx ow tg it q, X, sc, fb, W, e, h, hX => by
    cases e with
    | DictComp x z gs bs pos =>
      match gs, h with
      | [⟨t, i, ifs, 0⟩], h =>
        have h' : (blkC N sc bs (ownOf N ow) && (decide ((ownOf N ow).map (·.2) = ow) && (tgS tg).all (fun j => decide (j ∈ ow))) &&
          (ckI T N it sc fb t i && plainE i) && (ckG N (relS bs sc) (fun x => bs.names.lookup x == some .cell) tg t && (ckC T N q (relS bs sc) (fun x => bs.names.lookup x == some .cell) ifs && (ckE T N kx (relS bs sc) (fun x => bs.names.lookup x == some .cell) x && ckE T N vx (relS bs sc) (fun x => bs.names.lookup x == some .cell) z)))) = true := h
        simp only [Bool.and_eq_true, decide_eq_true_eq, List.all_eq_true] at h'
        obtain ⟨⟨⟨h1, h2, h3⟩, h4, h5⟩, h6, h7, h8, h9⟩ := h'
        have ok : BlkOk X.N X.env.scope bs (ownOf N ow) := by
          rw [hX.hN, hX.sc]
          exact blkOk_by h1
        have q1 := pe_dc (X := X) (kx := x) (vx := z) (tg := t) (iter := i) (ifs := ifs) (scope := bs) (own := ownOf N ow) (pos := pos) (g := tG X.K cA tg) (tt := tC1 X.K cA P (fun _ _ _ _ => False) q) (tk := tE X.K cA P (fun _ _ _ _ => False) kx) (tv := tE X.K cA P (fun _ _ _ _ => False) vx) hX.calm hX.nd (sndI it h4 hX) ok
          (fun s H C cl fp => by
            have hB := hX.blk s H C cl fp (bs := bs)
            refine pg_ck (X := X.blk s H bs (compEnvC bs cl C X.env) fp) (N := N) ?_ hB.hN hB.nd hB.calm
            rw [hB.sc, hB.fb]
            exact h6)
          (fun s H C cl fp => sndC q h7 (hX.blk s H C cl fp)) (fun s H C cl fp => (sndE kx h8 (hX.blk s H C cl fp)).pe) (fun s H C cl fp => (sndE vx h9 (hX.blk s H C cl fp)).pe) (plain_set h5)
        rw [h2] at q1
        exact .gen (PE.imp q1 fun _ _ _ z => rd_dc h3 z) rfl
    | _ => exact Bool.noConfusion (show false = true from h)
theorem sndEs : ∀ (es : Es) {X : Cx} {sc : Scope} {fb : Str → Bool} {W : WX} {xs : List Expr}, ckEs T N es sc fb xs = true → XC T P cA lv X N sc fb W → PA X xs (tA X.K cA P W es)
  | .nil, X, sc, fb, W, xs, h, hX => by
    cases xs with
    | nil =>
      refine PA.imp pa_nil ?_
      rintro σ H Q ⟨c, e, s, r, re, h⟩
      exact h.ok r [] .nil
    | cons x xs => exact Bool.noConfusion (show false = true from h)
  | .cons a es, X, sc, fb, W, xs, h, hX => by
    cases xs with
    | nil => exact Bool.noConfusion (show false = true from h)
    | cons x xs =>
      have h' : ((ckE T N a sc fb x && plainE x) && ckEs T N es sc fb xs) = true := h
      simp only [Bool.and_eq_true] at h'
      obtain ⟨⟨h1, h2⟩, h3⟩ := h'
      refine PA.imp (pa_cons (sndE a h1 hX).pe (sndEs es h3 hX) (star_cons h2)) ?_
      rintro σ H Q ⟨c, e, s, r, re, h⟩
      simp only [evs] at h
      refine (sub_e r re h fun _ _ _ _ z => z).mono fun v H1 ⟨c1, d1, s1, x1, r1, re1, v1, h1⟩ => (sub_a r1 re1 h1 fun _ _ _ _ z => z).mono fun vs H2 ⟨c2, d2, s2, x2, r2, re2, v2, h2⟩ => ?_
      exact h2.ok r2 _ (.cons (v1.mono x2) v2)
theorem sndKs : ∀ (es : Es) {X : Cx} {sc : Scope} {fb : Str → Bool} {W : WX} {xs : List Keyword}, ckEs T N es sc fb (xs.map (·.value)) = true → XC T P cA lv X N sc fb W → PK X xs (tA X.K cA P W es)
  | .nil, X, sc, fb, W, xs, h, hX => by
    cases xs with
    | nil =>
      refine PK.imp pk_nil ?_
      rintro σ H Q ⟨c, e, s, r, re, h⟩
      exact h.ok r [] .nil
    | cons x xs => exact Bool.noConfusion (show false = true from h)
  | .cons a es, X, sc, fb, W, xs, h, hX => by
    cases xs with
    | nil => exact Bool.noConfusion (show false = true from h)
    | cons x xs =>
      have h' : ((ckE T N a sc fb x.value && plainE x.value) && ckEs T N es sc fb (xs.map (·.value))) = true := h
      simp only [Bool.and_eq_true] at h'
      obtain ⟨⟨h1, h2⟩, h3⟩ := h'
      obtain ⟨nm, v, kp⟩ := x
      refine PK.imp (pk_cons (sndE a h1 hX).pe (sndKs es h3 hX)) ?_
      rintro σ H Q ⟨c, e, s, r, re, h⟩
      simp only [evs] at h
      refine (sub_e r re h fun _ _ _ _ z => z).mono fun v H1 ⟨c1, d1, s1, x1, r1, re1, v1, h1⟩ => (sub_a r1 re1 h1 fun _ _ _ _ z => z).mono fun vs H2 ⟨c2, d2, s2, x2, r2, re2, v2, h2⟩ => ?_
      exact h2.ok r2 _ (.cons (v1.mono x2) v2)
theorem sndO : ∀ (o : Eo) {X : Cx} {sc : Scope} {fb : Str → Bool} {W : WX} {x : Option Expr}, ckO T N o sc fb x = true → XC T P cA lv X N sc fb W → PO X x (tO X.K cA P W o)
  | .no, X, sc, fb, W, x, h, hX => by
    cases x with
    | none =>
      refine PO.imp po_none ?_
      rintro σ H Q ⟨c, e, s, r, re, h⟩
      exact h.ok r
    | some x => exact Bool.noConfusion (show false = true from h)
  | .so a, X, sc, fb, W, x, h, hX => by
    cases x with
    | none => exact Bool.noConfusion (show false = true from h)
    | some x =>
      refine PO.imp (po_some (sndE a h hX).pe) ?_
      rintro σ H Q ⟨c, e, s, r, re, h⟩
      simp only [evo] at h
      refine (sub_e r re h fun _ _ _ _ z => z).mono fun v H1 ⟨c1, d1, s1, x1, r1, re1, v1, h1⟩ => ?_
      obtain ⟨i, e1, h1⟩ := h1.rOr
      exact ⟨i, dInt_v e1 v1, h1.ok r1⟩
theorem sndC : ∀ (o : Eo) {X : Cx} {sc : Scope} {fb : Str → Bool} {W : WX} {x : List Expr}, ckC T N o sc fb x = true → XC T P cA lv X N sc fb W → PTs X x (tC1 X.K cA P W o)
  | .no, X, sc, fb, W, x, h, hX => by
    cases x with
    | nil =>
      refine PTs.imp pts_nil ?_
      rintro σ H Q ⟨c, e, s, r, re, h⟩
      exact h.ok r
    | cons y x => exact Bool.noConfusion (show false = true from h)
  | .so a, X, sc, fb, W, x, h, hX => by
    match x, h with
    | [x], h =>
      have h' : (ckE T N a sc fb x && tstB a) = true := h
      simp only [Bool.and_eq_true] at h'
      exact PTs.imp (pts_one ((sndE a h'.1 hX).pt h'.2)) fun _ _ _ z => tT_C z
    | [], h => exact Bool.noConfusion (show false = true from h)
    | _ :: _ :: _, h => exact Bool.noConfusion (show false = true from h)
theorem sndI : ∀ (i : It) {X : Cx} {sc : Scope} {fb : Str → Bool} {W : WX} {t x : Expr}, ckI T N i sc fb t x = true → XC T P cA lv X N sc fb W → PI X t x (tI X.K cA P W i)
  | .seq a, X, sc, fb, W, t, x, h, hX => by
    have pa := (sndE a h hX).pe
    refine PI.imp (PI.or (pi_list pa) (PI.or (pi_tup pa) (pi_str pa))) ?_
    rintro σ H R ⟨c, e, s, r, re, h⟩
    simp only [evi] at h
    cases q : ev P a e s with
    | bad => rw [q] at h; exact h.elim
    | exc y s1 =>
      refine .inl ⟨c, e, s, r, re, ?_⟩
      rw [q] at h ⊢
      exact h
    | ok d s1 =>
      have h1 := h
      rw [q] at h1
      simp only [G.R.bind_ok] at h1
      cases d with
      | o n =>
        dsimp only at h1
        split at h1
        · rename_i ys ec
          refine .inl (tE_at (A := fun _ _ _ => True) r re q fun v H1 c1 x1 r1 re1 v1 => ?_)
          obtain ⟨b, u, rfl, i1, i2, i3, i4, vs, rfl, hv⟩ := r1.at ec v1
          obtain ⟨r2, x2⟩ := (r1.drop (n := n)).fzc i1 i3 i4 dead_self
          exact ⟨b, rfl, ⟨vs, SqL.of i3⟩, h1 _ _ (x1.trans x2) r2 _ (jok_cell upd_same (hv.mono x2))⟩
        · exact h1.elim
      | s l => exact h1.elim
      | p d =>
        cases d with
        | list ds =>
          refine .inl (tE_at (A := fun _ _ _ => True) r re q fun v H1 c1 x1 r1 re1 v1 => ?_)
          cases v1 with
          | lst g1 g2 => exact ⟨_, rfl, ⟨_, SqL.of (r1.sub _ _ g1)⟩, h1 c1 H1 x1 r1 _ (jok_list g1 g2)⟩
        | tuple ds =>
          refine .inr (.inl (tE_at (A := fun _ _ _ => True) r re q fun v H1 c1 x1 r1 re1 v1 => ?_))
          cases v1 with
          | tup g1 g2 => exact ⟨_, rfl, ⟨_, seqT_mono r1.sub g1⟩, h1 c1 H1 x1 r1 _ (jok_tup g1 g2)⟩
        | str z =>
          refine .inr (.inr (tE_at (A := fun _ _ _ => True) r re q fun v H1 c1 x1 r1 re1 v1 => ?_))
          cases v1
          exact ⟨z, rfl, h1 c1 H1 x1 r1 _ jok_str⟩
        | none => exact h1.elim
        | bool b => exact h1.elim
        | int b => exact h1.elim
        | dict b => exact h1.elim
  | .rng a, X, sc, fb, W, t, x, h, hX => by
    cases x with
    | Call fn args kws pos =>
      cases fn with
      | Name x p =>
        match args, kws, h with
        | [y], [], h =>
          have h' : (decide (x = "range") && blB T sc x && (ckE T N a sc fb y && plainE y)) = true := h
          simp only [Bool.and_eq_true, decide_eq_true_eq] at h'
          obtain ⟨⟨h1, h2⟩, h3, h4⟩ := h'
          subst h1
          obtain ⟨g1, g2, g3, g4⟩ := blB_ok h2 hX
          refine PI.imp (pi_range1 g1 g2 (pa_cons (sndE a h3 hX).pe pa_nil (star_cons h4)) (star_cons h4)) ?_
          rintro σ H R ⟨c, e, s, r, re, h⟩
          simp only [evi] at h
          refine (sub_e r re h fun _ _ _ _ z => z).mono fun v H1 ⟨c1, d1, s1, x1, r1, re1, v1, h1⟩ => ?_
          obtain ⟨i, e1, h1⟩ := h1.rOr
          obtain ⟨⟨l1, l2⟩, h1⟩ := h1.if_
          have : (LIM : Int) = 1000000 := rfl
          exact ⟨i, by rw [dInt_v e1 v1], by omega, by omega, h1.ok r1 _ (jok_rng fun k => by omega)⟩
        | [], _, h => exact Bool.noConfusion (show false = true from h)
        | [_], _ :: _, h => exact Bool.noConfusion (show false = true from h)
        | _ :: _ :: _, [], h => exact Bool.noConfusion (show false = true from h)
        | _ :: _ :: _, _ :: _, h => exact Bool.noConfusion (show false = true from h)
      | _ => exact Bool.noConfusion (show false = true from h)
    | _ => exact Bool.noConfusion (show false = true from h)
  | .rng2 a b, X, sc, fb, W, t, x, h, hX => by
    cases x with
    | Call fn args kws pos =>
      cases fn with
      | Name x p =>
        match args, kws, h with
        | [y, z], [], h =>
          have h' : (decide (x = "range") && blB T sc x && (ckE T N a sc fb y && plainE y && (ckE T N b sc fb z && plainE z))) = true := h
          simp only [Bool.and_eq_true, decide_eq_true_eq] at h'
          obtain ⟨⟨h1, h2⟩, ⟨h3, h4⟩, h5, h6⟩ := h'
          subst h1
          obtain ⟨g1, g2, g3, g4⟩ := blB_ok h2 hX
          have s2 : starEach [z] X.env = [(false, eval z X.env)] := star_cons h6
          refine PI.imp (pi_range2 g1 g2 (pa_cons (sndE a h3 hX).pe (pa_cons (sndE b h5 hX).pe pa_nil (star_cons h6)) (star_cons h4)) (by rw [star_cons h4, s2]) s2) ?_
          rintro σ H R ⟨c, e, s, r, re, h⟩
          simp only [evi] at h
          refine (sub_e r re h fun _ _ _ _ z => z).mono fun v H1 ⟨c1, d1, s1, x1, r1, re1, v1, h1⟩ => (sub_e r1 re1 h1 fun _ _ _ _ z => z).mono fun w H2 ⟨c2, d2, s2, x2, r2, re2, v2, h2⟩ => ?_
          obtain ⟨i, e1, h2⟩ := h2.rOr
          obtain ⟨j, e2, h2⟩ := h2.rOr
          obtain ⟨⟨l1, l2, l3, l4⟩, h2⟩ := h2.if_
          have : (LIM : Int) = 1000000 := rfl
          exact ⟨i, j, by rw [dInt_v e1 (v1.mono x2), dInt_v e2 v2], ⟨by omega, by omega, by omega, by omega⟩, h2.ok r2 _ (jok_rng fun k => rfl)⟩
        | [], _, h => exact Bool.noConfusion (show false = true from h)
        | [_], _, h => exact Bool.noConfusion (show false = true from h)
        | [_, _], _ :: _, h => exact Bool.noConfusion (show false = true from h)
        | _ :: _ :: _ :: _, [], h => exact Bool.noConfusion (show false = true from h)
        | _ :: _ :: _ :: _, _ :: _, h => exact Bool.noConfusion (show false = true from h)
      | _ => exact Bool.noConfusion (show false = true from h)
    | _ => exact Bool.noConfusion (show false = true from h)
  | .enu a, X, sc, fb, W, t, x, h, hX => by
    cases t with
    | Tuple ts tk tp =>
      cases x with
      | Call fn args kws pos =>
        cases fn with
        | Name x p =>
          match args, kws, h with
          | [y], [], h =>
            have h' : (decide (x = "enumerate") && blB T sc x && (ckE T N a sc fb y && plainE y)) = true := h
            simp only [Bool.and_eq_true, decide_eq_true_eq] at h'
            obtain ⟨⟨h1, h2⟩, h3, h4⟩ := h'
            subst h1
            obtain ⟨g1, g2, g3, g4⟩ := blB_ok h2 hX
            refine PI.imp (pi_enum g1 g2 (pa_cons (sndE a h3 hX).pe pa_nil (star_cons h4)) (star_cons h4)) ?_
            rintro σ H R ⟨c, e, s, r, re, h⟩
            simp only [evi] at h
            refine (sub_e r re h fun _ _ _ _ z => z).mono fun v H1 ⟨c1, d1, s1, x1, r1, re1, v1, h1⟩ => ?_
            cases d1 with
            | o n => exact h1.elim
            | s l => exact h1.elim
            | p d =>
              cases d with
              | list ds =>
                cases v1 with
                | lst k1 k2 => exact ⟨_, _, rfl, SqL.of (r1.sub _ _ k1), h1.ok r1 _ (jok_enum k1 k2)⟩
              | _ => exact h1.elim
          | [], _, h => exact Bool.noConfusion (show false = true from h)
          | [_], _ :: _, h => exact Bool.noConfusion (show false = true from h)
          | _ :: _ :: _, [], h => exact Bool.noConfusion (show false = true from h)
          | _ :: _ :: _, _ :: _, h => exact Bool.noConfusion (show false = true from h)
        | _ => exact Bool.noConfusion (show false = true from h)
      | _ => exact Bool.noConfusion (show false = true from h)
    | _ => cases x <;> exact Bool.noConfusion (show false = true from h)
  | .dk a, X, sc, fb, W, t, x, h, hX => PI.imp (pi_keys (pe_lk (sndE a h hX).pe)) fun _ _ _ z => rd_dk z
  | .dit a, X, sc, fb, W, t, x, h, hX => by
    cases t with
    | Tuple ts tk tp =>
      have h' : (match callA x with
        | some (y, m, []) => decide (m = "items") && ckE T N a sc fb y
        | _ => false) = true := h
      split at h'
      · rename_i y m q
        obtain ⟨ap, cp, rfl, l1, l2⟩ := callA_ok q
        simp only [Bool.and_eq_true, decide_eq_true_eq] at h'
        obtain ⟨rfl, h2⟩ := h'
        exact PI.imp (pi_items (pe_lk (sndE a h2 hX).pe) (att_base l2) (by rw [l1]; exact beq_self_eq_true _)) fun _ _ _ z => rd_dit z
      · cases h'
    | _ => exact Bool.noConfusion (show false = true from h)
  | .zip a b, X, sc, fb, W, t, x, h, hX => by
    cases t with
    | Tuple ts tk tp =>
      have h' : (match callN x with
        | some (x, [y, z]) => decide (x = "zip") && blB T sc x && (ckE T N a sc fb y && plainE y && (ckE T N b sc fb z && plainE z))
        | _ => false) = true := h
      split at h'
      · rename_i x y z q
        obtain ⟨p, pos, rfl⟩ := callN_ok q
        simp only [Bool.and_eq_true, decide_eq_true_eq] at h'
        obtain ⟨⟨rfl, h2⟩, ⟨h3, h4⟩, h5, h6⟩ := h'
        obtain ⟨g1, g2, g3, g4⟩ := blB_ok h2 hX
        exact PI.imp (pi_zip g1 g2 (pa_cons (sndE a h3 hX).pe (pa_cons (sndE b h5 hX).pe pa_nil (star_cons h6)) (star_cons h4)) (star_cons h4) (star_any (by rw [List.all_cons, h6]; rfl))) fun _ _ _ z => rd_zip z
      · cases h'
    | _ => exact Bool.noConfusion (show false = true from h)
end
end
end
end G

namespace G
open PySem PySem.Spec PyProof.Rows L2
open Classical
noncomputable section
/-! ### statements -/
def PostS (K : PySem.W.Frag) (cA : Nat → Addr) (W : WX) (c : Cf) (H : Hp) (r : RS) (B : Ends) : Prop := match r with
  | .nx e s => ∀ c' H' σ', Ext c H c' H' → Rep K cA c' H' s → RelE K c' e σ' → B.nx σ' H'
  | .bk e s => ∀ c' H' σ', Ext c H c' H' → Rep K cA c' H' s → RelE K c' e σ' → B.bk σ' H'
  | .ct e s => ∀ c' H' σ', Ext c H c' H' → Rep K cA c' H' s → RelE K c' e σ' → B.ct σ' H'
  | .rt d s => ∀ c' H' v, Ext c H c' H' → Rep K cA c' H' s → RepV K c' d v → B.rt v H'
  | .exc x e s => ∀ c' H' σ', Ext c H c' H' → Rep K cA c' H' s → RelE K c' e σ' → WW K cA W σ' x s c' H'
  | .bad => False
section
variable {α : Type} {K : PySem.W.Frag} {cA : Nat → Addr} {P : Pg} {W : WX} {c c' : Cf} {H H' : Hp} {s : Sto} {e : Env} {σ : L2.St} {B B' : Ends}
theorem PostS.mono {r : RS} (x : Ext c H c' H') (h : PostS K cA W c H r B) : PostS K cA W c' H' r B := by
  cases r with
  | nx e s => exact fun c2 H2 σ2 x2 => h c2 H2 σ2 (x.trans x2)
  | bk e s => exact fun c2 H2 σ2 x2 => h c2 H2 σ2 (x.trans x2)
  | ct e s => exact fun c2 H2 σ2 x2 => h c2 H2 σ2 (x.trans x2)
  | rt e s => exact fun c2 H2 v x2 => h c2 H2 v (x.trans x2)
  | exc y e s => exact fun c2 H2 σ2 x2 => h c2 H2 σ2 (x.trans x2)
  | bad => exact h
theorem PostS.toS {r : R α} {f : α → Sto → RS} (re : RelE K c e σ) (h : PostS K cA W c H (G.toS r e f) B) : Post K cA c H r (fun a s' c' H' => PostS K cA W c' H' (f a s') B) (WW K cA W σ) := by
  cases r with
  | ok a s => exact fun c2 H2 x _ => PostS.mono (r := f a s) x h
  | exc y s => exact fun c2 H2 x r => h c2 H2 σ x r (re.mono x)
  | bad => exact h
theorem PostS.nxt {r : RS} {f : Env → Sto → RS} (h : PostS K cA W c H (r.nxt f) B) : PostS K cA W c H r { B with nx := fun σ' H' => ∃ c' e' s', Ext c H c' H' ∧ Rep K cA c' H' s' ∧ RelE K c' e' σ' ∧ PostS K cA W c' H' (f e' s') B } := by
  cases r with
  | nx e s => exact fun c2 H2 σ2 x2 r2 re2 => ⟨c2, e, s, x2, r2, re2, PostS.mono (r := f e s) x2 h⟩
  | bk e s => exact h
  | ct e s => exact h
  | rt e s => exact h
  | exc y e s => exact h
  | bad => exact h
theorem PostS.nx {e : Env} (h : PostS K cA W c H (.nx e s) B) (r : Rep K cA c H s) (re : RelE K c e σ) : B.nx σ H := h c H σ (Ext.refl _ _) r re
def tS (K : PySem.W.Frag) (cA : Nat → Addr) (P : Pg) (W : WX) (m : S) : TS := fun B σ H => ∃ c e s, Rep K cA c H s ∧ RelE K c e σ ∧ PostS K cA W c H (exe P m e s) B
def tSs (K : PySem.W.Frag) (cA : Nat → Addr) (P : Pg) (W : WX) (m : Ss) : TS := fun B σ H => ∃ c e s, Rep K cA c H s ∧ RelE K c e σ ∧ PostS K cA W c H (exs P m e s) B
theorem se_ {m : E} {f : D → Sto → RS} (r : Rep K cA c H s) (re : RelE K c e σ) (h : PostS K cA W c H (G.toS (ev P m e s) e f) B) :
    tE K cA P W m σ H (fun v H' => ∃ c' d s', Ext c H c' H' ∧ Rep K cA c' H' s' ∧ RelE K c' e σ ∧ RepV K c' d v ∧ PostS K cA W c' H' (f d s') B) :=
  ⟨c, e, s, r, re, (PostS.toS re h).imp (fun d s' c' H' x q z v hv => ⟨c', d, s', x, q, re.mono x, hv, z⟩) fun _ _ _ _ _ _ z => z⟩
theorem rd_ex {a : E} (h : tS K cA P W (.ex a) B σ H) : tDrop (tE K cA P W a) B σ H := by
  obtain ⟨c, e, s, r, re, h⟩ := h
  simp only [exe] at h
  exact (se_ r re h).mono fun v H1 ⟨c1, d, s1, x1, r1, re1, hv, h1⟩ => h1.nx r1 re1
theorem rd_ret {a : E} (h : tS K cA P W (.ret a) B σ H) : tRet (tE K cA P W a) B σ H := by
  obtain ⟨c, e, s, r, re, h⟩ := h
  simp only [exe] at h
  exact (se_ r re h).mono fun v H1 ⟨c1, d, s1, x1, r1, re1, hv, h1⟩ => h1 c1 H1 v (Ext.refl _ _) r1 hv
theorem rd_retN (h : tS K cA P W .retN B σ H) : tRetN B σ H := by
  obtain ⟨c, e, s, r, re, h⟩ := h
  exact h c H .non (Ext.refl _ _) r Dq.non
theorem bindS_ {tg : Tg} {x : Item} {f : Env → RS} (h : PostS K cA W c H (bindS tg x s e f) B) : ∃ e', bindT tg x s e = some e' ∧ PostS K cA W c H (f e') B := by
  unfold bindS at h
  cases q : bindT tg x s e with
  | none => rw [q] at h; exact h.elim
  | some e' => rw [q] at h; exact ⟨e', rfl, h⟩
theorem rd_asg {tg : Tg} {a : E} (h : tS K cA P W (.asg tg a) B σ H) : tE K cA P W a σ H fun v H1 => tG K cA tg v σ H1 B.nx := by
  obtain ⟨c, e, s, r, re, h⟩ := h
  simp only [exe] at h
  refine (se_ r re h).mono fun v H1 ⟨c1, d, s1, x1, r1, re1, hv, h1⟩ => ?_
  obtain ⟨e', hb, h1⟩ := bindS_ h1
  exact ⟨c1, e, s1, .one d, r1, re1, hv, e', hb, fun σ' re' _ => h1.nx r1 re'⟩
theorem rd_par {i j : Nat} {a b : E} (h : tS K cA P W (.par i j a b) B σ H) : tPar i j (tCons (tE K cA P W a) (tCons (tE K cA P W b) tNil)) B σ H := by
  obtain ⟨c, e, s, r, re, h⟩ := h
  simp only [exe] at h
  refine (se_ r re h).mono fun v H1 ⟨c1, d1, s1, x1, r1, re1, v1, h1⟩ => (se_ r1 re1 h1).mono fun o H2 ⟨c2, d2, s2, x2, r2, re2, v2, h2⟩ => ?_
  split at h2
  · exact ⟨v, o, rfl, h2.nx r2 ((re2.set (v1.mono x2)).set v2)⟩
  · exact h2.elim
theorem rd_asgN {i : Nat} {a : E} (h : tS K cA P W (.asg (.nm i) a) B σ H) : tE K cA P W a σ H fun v H1 => gName i v σ H1 B.nx := by
  obtain ⟨c, e, s, r, re, h⟩ := h
  simp only [exe] at h
  refine (se_ r re h).mono fun v H1 ⟨c1, d, s1, x1, r1, re1, hv, h1⟩ => ?_
  obtain ⟨e', hb, h1⟩ := bindS_ h1
  simp only [bindT] at hb
  split at hb
  · cases hb
    exact h1.nx r1 (re1.set hv)
  · cases hb
theorem rd_seti {a i x : E} (h : tS K cA P W (.seti a i x) B σ H) : tAsg (tE K cA P W x) (gSub (tE K cA P W a) (tE K cA P W i) (rSetG K cA)) B σ H := by
  obtain ⟨c, e, s, r, re, h⟩ := h
  simp only [exe] at h
  refine (se_ r re h).mono fun v H1 ⟨c1, d1, s1, x1, r1, re1, v1, h1⟩ => (se_ r1 re1 h1).mono fun o H2 ⟨c2, d2, s2, x2, r2, re2, v2, h2⟩ => (se_ r2 re2 h2).mono fun j H3 ⟨c3, d3, s3, x3, r3, re3, v3, h3⟩ => ?_
  exact ⟨c3, d2, d3, d1, s3, _, r3, v2.mono x3, v3, v1.mono (x2.trans x3), (PostS.toS re3 h3).imp (fun _ s' c' H' x' r' z => z.nx r' (re3.mono x')) fun _ _ _ _ _ _ z => z⟩
theorem rd_ifs {t : E} {a b : Ss} (h : tS K cA P W (.ifs t a b) B σ H) : tIfS (tT K cA P W t) (tSs K cA P W a) (tSs K cA P W b) B σ H := by
  obtain ⟨c, e, s, r, re, h⟩ := h
  simp only [exe] at h
  refine tT_C ⟨c, e, s, r, re, (PostS.toS re h).imp (fun q s1 c1 H1 x1 r1 z => ?_) fun _ _ _ _ _ _ z => z⟩
  cases q with
  | false =>
    rw [if_neg Bool.false_ne_true] at z ⊢
    exact ⟨c1, e, s1, r1, re.mono x1, z⟩
  | true =>
    rw [if_pos rfl] at z ⊢
    exact ⟨c1, e, s1, r1, re.mono x1, z⟩
/-- name += .., name -= .. -/
def augF : Bop → Int → Int → Int
  | .add => fun i j => i + j
  | _ => fun i j => i - j
theorem rd_aug {i : Nat} {op : Bop} {a : E} (h : tS K cA P W (.aug i op a) B σ H) : tAug i (tE K cA P W a) (ipI (augF op)) B σ H := by
  obtain ⟨c, e, s, r, re, h⟩ := h
  simp only [exe] at h
  split at h
  · rename_i d q
    obtain ⟨x, k1, k2⟩ := re.2 i d q
    refine ⟨x, k1, (se_ r re h).mono fun v H1 ⟨c1, d1, s1, x1, r1, re1, v1, h1⟩ => ?_⟩
    cases ej : dInt d with
    | none => rw [ej] at h1; cases op <;> exact h1.elim
    | some j =>
      cases ek : dInt d1 with
      | none => rw [ej, ek] at h1; cases op <;> exact h1.elim
      | some k =>
        rw [ej, ek] at h1
        refine ⟨j, k, dInt_v ej (k2.mono x1), dInt_v ek v1, ?_⟩
        cases op <;> first | exact h1.elim | exact h1.nx r1 (re1.set ok_int)
  · exact h.elim
/-- raise X('..') -/
theorem rd_raiseM {k : Nat} (h : tS K cA P W (.raiseM k) B σ H) : W (.ref (cA k)) none σ H := by
  obtain ⟨c, e, s, r, re, h⟩ := h
  exact h c H σ (Ext.refl _ _) r re _ _ ⟨rfl, rfl⟩
/-- raise X(e) -/
theorem rd_raise0 {k : Nat} (h : tS K cA P W (.raise0 k) B σ H) : W (.ref (cA k)) none σ H := by
  obtain ⟨c, e, s, r, re, h⟩ := h
  exact h c H σ (Ext.refl _ _) r re _ _ ⟨rfl, rfl⟩
theorem rd_raiseT {k : Nat} {a : E} (h : tS K cA P W (.raiseT k a) B σ H) : tE K cA P W a σ H (fun _ H1 => W (.ref (cA k)) none σ H1) := by
  obtain ⟨c, e, s, r, re, h⟩ := h
  simp only [exe] at h
  refine (se_ r re h).mono fun w H1 ⟨c1, d1, s1, x1, r1, re1, v1, h1⟩ => ?_
  exact h1 c1 H1 σ (Ext.refl _ _) r1 re1 _ _ ⟨rfl, rfl⟩
theorem rd_raiseV {k f : Nat} {a : E} (T : OexC K (cA k)) (hno : PySem.W.findIn K (.ref (cA k)) "wrong" = some none) (h : tS K cA P W (.raiseV k f a) B σ H) : tMkO (cA k) (spIni K) [] (tCons (tE K cA P W a) tNil) σ H (fun cls d H' => W cls d σ H') := by
  obtain ⟨c, e, s, r, re, h⟩ := h
  simp only [exe] at h
  refine (se_ r re h).mono fun w H1 ⟨c1, d1, s1, x1, r1, re1, v1, h1⟩ => ?_
  refine ⟨by simp, fun p hp => ⟨p, cA k, w, rfl, T, hno, upd_same, fun dx hdx ne => ⟨rfl, dx, [(("wrong" : Str), w)], upd_same, ?_, ?_, ?_⟩⟩⟩
  · rw [upd_ne ne]
    exact upd_same
  · exact (upd_ne (H := H1) ne).symm.trans hdx
  · have n1 : H1 dx = none := (upd_ne (H := H1) ne).symm.trans hdx
    obtain ⟨f1, f2⟩ := r1.fresh n1
    have eH : upd (del (upd (upd (upd H1 p (exo p (cA k) none)) dx (exd dx [(("wrong" : Str), w)])) p (exo p (cA k) (some dx))) p) dx (.xd [(("wrong" : Str), w)]) = upd H1 dx (.xd [(("wrong" : Str), w)]) := by
      funext b
      by_cases h1 : b = dx
      · rw [h1, upd_same, upd_same]
      · rw [upd_ne h1, upd_ne h1]
        by_cases h2 : b = p
        · rw [h2, del_same, hp]
        · rw [del_ne h2, upd_ne h2, upd_ne h1, upd_ne h2]
    rw [eH]
    have x2 : Ext c1 H1 ⟨upd c1.F dx (.xd [(("wrong" : Str), w)]), c1.ι⟩ (upd H1 dx (.xd [(("wrong" : Str), w)])) := (Ext.grow n1).adF f1 n1
    exact h1 _ _ σ x2 ((r1.grow n1).adF upd_same f1 f2) (re1.mono x2) _ _ ⟨rfl, dx, w, rfl, upd_same, v1.mono x2⟩
theorem rd_raiseK {k f : Nat} {a : E} (T : OexC K (cA k)) (hno : PySem.W.findIn K (.ref (cA k)) "wrong" = some none) (h : tS K cA P W (.raiseK k f a) B σ H) : tMkO (cA k) (spIni K) [] (tCons (tE K cA P W a) tNil) σ H (fun cls d H' => W cls d σ H') := by
  obtain ⟨c, e, s, r, re, h⟩ := h
  simp only [exe] at h
  refine (se_ r re h).mono fun w H1 ⟨c1, d1, s1, x1, r1, re1, v1, h1⟩ => ?_
  refine ⟨by simp, fun p hp => ⟨p, cA k, w, rfl, T, hno, upd_same, fun dx hdx ne => ⟨rfl, dx, [(("wrong" : Str), w)], upd_same, ?_, ?_, ?_⟩⟩⟩
  · rw [upd_ne ne]
    exact upd_same
  · exact (upd_ne (H := H1) ne).symm.trans hdx
  · have n1 : H1 dx = none := (upd_ne (H := H1) ne).symm.trans hdx
    obtain ⟨f1, f2⟩ := r1.fresh n1
    have eH : upd (del (upd (upd (upd H1 p (exo p (cA k) none)) dx (exd dx [(("wrong" : Str), w)])) p (exo p (cA k) (some dx))) p) dx (.xd [(("wrong" : Str), w)]) = upd H1 dx (.xd [(("wrong" : Str), w)]) := by
      funext b
      by_cases h1 : b = dx
      · rw [h1, upd_same, upd_same]
      · rw [upd_ne h1, upd_ne h1]
        by_cases h2 : b = p
        · rw [h2, del_same, hp]
        · rw [del_ne h2, upd_ne h2, upd_ne h1, upd_ne h2]
    rw [eH]
    have x2 : Ext c1 H1 ⟨upd c1.F dx (.xd [(("wrong" : Str), w)]), c1.ι⟩ (upd H1 dx (.xd [(("wrong" : Str), w)])) := (Ext.grow n1).adF f1 n1
    exact h1 _ _ σ x2 ((r1.grow n1).adF upd_same f1 f2) (re1.mono x2) _ _ ⟨rfl, dx, w, rfl, upd_same, v1.mono x2⟩
/-- try: .. except K as x: caught = x -/
theorem rd_tryC {b : Ss} {k x i : Nat} {xs : List (Str × Bool)} {mg : Str → Option Value} (F : ExF K mg cA xs P.sb) (h : tS K cA P W (.tryC b k x i) B σ H) : tSs K cA P (wKp K (.ref (cA k)) x (tAsg (tVar x) (gName i)) W B) b B σ H := by
  obtain ⟨c, e, s, r, re, h⟩ := h
  simp only [exe] at h
  refine ⟨c, e, s, r, re, ?_⟩
  cases q : exs P b e s with
  | nx e1 s1 => rw [q] at h; exact h
  | bk e1 s1 => rw [q] at h; exact h
  | ct e1 s1 => rw [q] at h; exact h
  | rt d s1 => rw [q] at h; exact h
  | bad => rw [q] at h; exact h
  | exc y e1 s1 =>
    rw [q] at h
    dsimp only at h
    intro c1 H1 σ1 x1 r1 re1 cls dd hx
    cases z : P.sb y.c k with
    | none => rw [z] at h; exact h.elim
    | some b' =>
      rw [z] at h
      obtain ⟨f1, f2, f3⟩ := F.ea _ _ _ z
      obtain ⟨rfl, hx2⟩ := hx
      refine ⟨b', f2, fun hb a na => ?_, fun hb => ?_⟩
      · subst hb
        dsimp only at h
        refine ⟨cA y.c, rfl, ?_⟩
        obtain ⟨f1, f2⟩ := r1.fresh na
        have x2 : Ext c1 H1 ⟨c1.F, c1.ι ++ [a]⟩ (upd H1 a (exnO a (cA y.c) dd)) := (Ext.grow na).adC na
        have r2 : Rep K cA ⟨c1.F, c1.ι ++ [a]⟩ (upd H1 a (exnO a (cA y.c) dd)) (s1 ++ [some (.exn y.c y.pl)]) := (r1.grow na).adC upd_same f1 f2 ⟨dd, rfl, by
          cases ep : y.pl with
          | none => rw [ep] at hx2; exact hx2
          | some d =>
            rw [ep] at hx2
            obtain ⟨b, v, k1, k2, k3⟩ := hx2
            exact ⟨b, v, k1, k2, RepV.mono x2 k3⟩⟩
        have rv : RepV K ⟨c1.F, c1.ι ++ [a]⟩ (.o s1.length) (.ref a) := ⟨a, by
          show (c1.ι ++ [a])[s1.length]? = some a
          rw [List.getElem?_append_right (by rw [r1.len]; exact Nat.le_refl _), r1.len, Nat.sub_self]
          rfl, rfl⟩
        have re2 := re1.mono x2
        by_cases hlt : x < e1.length
        · rw [if_pos hlt] at h
          exact ⟨_, List.getElem?_set_self (by rw [← re1.1]; exact hlt), h _ _ _ (x1.trans x2) r2 (((re2.set rv).set rv).unset)⟩
        · rw [if_neg hlt] at h
          exact h.elim
      · subst hb
        dsimp only at h
        exact h c1 H1 σ1 x1 r1 re1 _ _ ⟨rfl, hx2⟩
theorem rd_for {tg : Tg} {it : It} {b : Ss} (h : tS K cA P W (.for_ tg it b) B σ H) : tFor (tI K cA P W it) (tG K cA tg) (tSs K cA P W b) B σ H := by
  obtain ⟨c, e, s, r, re, h⟩ := h
  simp only [exe] at h
  refine ⟨c, e, s, r, re, (PostS.toS re h).imp (fun items s1 c1 H1 x1 r1 h1 J j1 => ?_) fun _ _ _ _ _ _ z => z⟩
  refine ⟨fun i m σ' H' => m = items.length - i ∧ i ≤ items.length ∧ ∃ c' e' s', Ext c1 H1 c' H' ∧ Rep K cA c' H' s' ∧ RelE K c' e' σ' ∧ PostS K cA W c' H' (forL (fun x e1 s2 => bindS tg x s2 e1 fun e2 => exs P b e2 s2) (items.drop i) e' s') B, ⟨items.length, rfl, Nat.zero_le _, c1, e, s1, Ext.refl _ _, r1, re.mono x1, h1⟩, ?_⟩
  rintro i m σ2 H2 ⟨rfl, hi, c2, e2, s2, x2, r2, re2, h2⟩
  obtain ⟨j2, j3, j4⟩ := j1 c2 H2 s2 x2.f x2.i r2 i
  by_cases hlt : i < items.length
  · refine .inr ⟨j2 hlt, fun σ' H' => ∃ c' e' s', Ext c1 H1 c' H' ∧ Rep K cA c' H' s' ∧ RelE K c' e' σ' ∧ PostS K cA W c' H' (forL (fun x e1 s2 => bindS tg x s2 e1 fun e2 => exs P b e2 s2) (items.drop (i + 1)) e' s') B, fun σ' H' z => ⟨_, by omega, rfl, hlt, z⟩, fun v H3 hy => ?_⟩
    rw [List.drop_eq_getElem_cons hlt] at h2
    simp only [forL] at h2
    obtain ⟨c3, x3, r3, v3⟩ := j3 items[i] (List.getElem?_eq_getElem hlt) v H3 hy
    cases eb : bindT tg items[i] s2 e2 with
    | none =>
      unfold bindS at h2
      rw [eb] at h2
      exact h2.elim
    | some e3 =>
      unfold bindS at h2
      rw [eb] at h2
      dsimp only at h2
      refine ⟨c3, e2, s2, items[i], r3, re2.mono x3, v3, e3, eb, fun σ3 re3 _ => ⟨c3, e3, s2, r3, re3, ?_⟩⟩
      have x13 := x2.trans x3
      cases q : exs P b e3 s2 with
      | nx e4 s4 =>
        rw [q] at h2
        exact fun c4 H4 σ4 x4 r4 re4 => ⟨c4, e4, s4, x13.trans x4, r4, re4, h2.mono (x3.trans x4)⟩
      | ct e4 s4 =>
        rw [q] at h2
        exact fun c4 H4 σ4 x4 r4 re4 => ⟨c4, e4, s4, x13.trans x4, r4, re4, h2.mono (x3.trans x4)⟩
      | bk e4 s4 =>
        rw [q] at h2
        exact fun c4 H4 σ4 x4 r4 re4 => h2 c4 H4 σ4 (x3.trans x4) r4 re4
      | rt d s4 =>
        rw [q] at h2
        exact fun c4 H4 v4 x4 r4 hv4 => h2 c4 H4 v4 (x3.trans x4) r4 hv4
      | exc y e4 s4 =>
        rw [q] at h2
        exact fun c4 H4 σ4 x4 r4 re4 => h2 c4 H4 σ4 (x3.trans x4) r4 re4
      | bad =>
        rw [q] at h2
        exact h2
  · have ei : i = items.length := by omega
    subst ei
    rw [List.drop_length] at h2
    exact .inl ⟨j4 rfl, h2.nx r2 re2⟩
theorem rd_whl {t : E} {b : Ss} (h : tS K cA P W (.whl t b) B σ H) : tWhile (tT K cA P W t) (tSs K cA P W b) B σ H := by
  obtain ⟨c, e, s, r, re, h⟩ := h
  simp only [exe] at h
  refine ⟨fun m σ' H' => ∃ c' e' s', Rep K cA c' H' s' ∧ RelE K c' e' σ' ∧ PostS K cA W c' H' (whlL (fun e1 s1 => evc P (.so t) e1 s1) (fun e1 s1 => exs P b e1 s1) m e' s') B, ⟨P.W, c, e, s, r, re, h⟩, ?_⟩
  rintro m σ1 H1 ⟨c1, e1, s1, r1, re1, h1⟩
  cases m with
  | zero => exact h1.elim
  | succ m =>
    simp only [whlL] at h1
    refine tT_C ⟨c1, e1, s1, r1, re1, (PostS.toS re1 h1).imp (fun q s2 c2 H2 x2 r2 z => ?_) fun _ _ _ _ _ _ z => z⟩
    have re2 := re1.mono x2
    cases q with
    | false =>
      rw [if_neg Bool.false_ne_true] at z
      exact iteF (z.nx r2 re2)
    | true =>
      rw [if_pos rfl] at z
      refine iteT ?_
      refine ⟨fun σ' H' => ∃ c' e' s', Rep K cA c' H' s' ∧ RelE K c' e' σ' ∧ PostS K cA W c' H' (whlL (fun e1 s1 => evc P (.so t) e1 s1) (fun e1 s1 => exs P b e1 s1) m e' s') B, fun σ' H' z => ⟨m, Nat.lt_succ_self _, z⟩, c2, e1, s2, r2, re2, ?_⟩
      cases q : exs P b e1 s2 with
      | nx e4 s4 =>
        rw [q] at z
        exact fun c4 H4 σ4 x4 r4 re4 => ⟨c4, e4, s4, r4, re4, z.mono x4⟩
      | ct e4 s4 =>
        rw [q] at z
        exact fun c4 H4 σ4 x4 r4 re4 => ⟨c4, e4, s4, r4, re4, z.mono x4⟩
      | bk e4 s4 => rw [q] at z; exact z
      | rt d s4 => rw [q] at z; exact z
      | exc y e4 s4 => rw [q] at z; exact z
      | bad => rw [q] at z; exact z
end

section
variable {K : PySem.W.Frag} {cA : Nat → Addr} {P : Pg} {W : WX} {H : Hp} {σ : L2.St} {B : Ends}
theorem rd_setf {k : Nat} {a x : E} {f : Str} (hc : Cls K (cA k)) (hn : NoAttr K (cA k) f) (h : tS K cA P W (.setf k a f x) B σ H) : sFld K (tE K cA P W a) (tE K cA P W x) f B σ H := by
  obtain ⟨c, e, s, r, re, h⟩ := h
  simp only [exe] at h
  refine (se_ r re h).mono fun v H1 ⟨c1, d1, s1, x1, r1, re1, v1, h1⟩ => (se_ r1 re1 h1).mono fun o H2 ⟨c2, d2, s2, x2, r2, re2, v2, h2⟩ => ?_
  cases d2 with
  | p d => exact h2.elim
  | s l => exact h2.elim
  | o n =>
    have h3 : PostS K cA W c2 H2 (G.toS (match cel s2 n with
      | some (.ins k' fs) => if k' = k ∧ fs.length < 900 then R.ok () (s2.set n (some (.ins k' (putD f d1 fs)))) else .bad
      | _ => .bad) e fun _ s3 => .nx e s3) B := h2
    split at h3
    · rename_i k' fs ec
      by_cases q : k' = k ∧ fs.length < 900
      · rw [if_pos q] at h3
        obtain ⟨q1, q2⟩ := q
        clear h2
        subst q1
        obtain ⟨b, dx, ws, rfl, i1, i2, i3, i4, rk⟩ := ins_at r2 ec v2
        have v3 := v1.mono x2
        have lw : ws.length < 1000 := by
          have := Paired.length rk
          omega
        refine ⟨b, _, dx, ws, rfl, i3, hc, hn, lw, ?_⟩
        exact h3 c2 _ σ (Ext.wr r2 i1) (r2.wr i2 i1 ⟨dx, _, rfl, put_repK v3 rk⟩) re2
      · rw [if_neg q] at h3
        exact h3.elim
    · exact h3.elim
theorem rd_dput {d k x : E} (h : tS K cA P W (.dput d k x) B σ H) : sDPut (tE K cA P W d) (tE K cA P W k) (tE K cA P W x) B σ H := by
  obtain ⟨c, e, s, r, re, h⟩ := h
  simp only [exe] at h
  refine (se_ r re h).mono fun v H1 ⟨c1, d1, s1, x1, r1, re1, v1, h1⟩ => (se_ r1 re1 h1).mono fun o H2 ⟨c2, d2, s2, x2, r2, re2, v2, h2⟩ => (se_ r2 re2 h2).mono fun j H3 ⟨c3, d3, s3, x3, r3, re3, v3, h3⟩ => ?_
  unfold dputop at h3
  cases d2 with
  | p d => exact h3.elim
  | s l => exact h3.elim
  | o n =>
  cases e1 : asD s3 (.o n) with
  | none => rw [e1] at h3; exact h3.elim
  | some kvs =>
  cases e2 : keyD d3 with
  | none => rw [e1, e2] at h3; exact h3.elim
  | some q =>
  rw [e1, e2] at h3
  dsimp only at h3
  by_cases lz : kvs.length < LIM
  · rw [if_pos lz] at h3
    obtain ⟨n', a, ws, en, rfl, i1, i2, i3, i4, rk⟩ := asD_at r3 e1 (v2.mono x3)
    cases en
    have ek := keyD_v e2 v3
    subst ek
    have lw : ws.length < sizeLine := by
      have := Paired.length rk
      exact lim_lt (by omega)
    refine ⟨a, _, rfl, DPut.k i3 lw, ?_⟩
    exact h3 c3 _ σ (Ext.wr r3 i1) (r3.wr i2 i1 ⟨_, rfl, putKD_rep rk (v1.mono (x2.trans x3))⟩) re3
  · rw [if_neg lz] at h3
    exact h3.elim
end
theorem rd_gz {K : PySem.W.Frag} {cA : Nat → Addr} {P : Pg} {W : WX} {B : Ends} {σ : L2.St} {H : Hp} {i : Nat} {m : S} (h : tS K cA P W (.gz i m) B σ H) : tS K cA P W m B σ H := by
  obtain ⟨c, e, s, r, re, h⟩ := h
  simp only [exe] at h
  cases e1 : e[i]? with
  | none => rw [e1] at h; exact h.elim
  | some o =>
    cases o with
    | none => rw [e1] at h; exact h.elim
    | some d =>
      rw [e1] at h
      dsimp only at h
      cases e2 : G.frz 8 d s with
      | none => rw [e2] at h; exact h.elim
      | some q =>
        obtain ⟨q, s'⟩ := q
        rw [e2] at h
        dsimp only at h
        obtain ⟨v, h1, h2⟩ := re.2 i d e1
        obtain ⟨c2, f1, f2⟩ := frz_ok 8 e2 r h2
        have es : σ.set i (some v) = σ := by
          apply List.ext_getElem?
          intro n
          by_cases z : i = n
          · subst z
            rw [List.getElem?_set_self (List.getElem?_eq_some_iff.mp h1).1, h1]
          · rw [List.getElem?_set_ne z]
        have re2 : RelE K c2 (e.set i (some (.p q))) (σ.set i (some v)) := (re.mono f1.e).set f2
        rw [es] at re2
        exact ⟨c2, _, s', f1.r, re2, PostS.mono f1.e h⟩
/-! ### does the mini-text tell the statement? -/
def lcB : Expr → Bool
  | .ListComp .. => true
  | .SetComp .. => true
  | .DictComp .. => true
  | _ => false
theorem lcB_sw {x : Expr} {tg : Option Expr} {l : Nat} {env : PySem.Env} (h : lcB x = false) : swapsWith x tg l env = pure false := by
  cases x <;> first | rfl | exact Bool.noConfusion (show true = false from h)
theorem tup_sw {x : Expr} {es : List Expr} {k p} {l : Nat} {env : PySem.Env} : swapsWith x (some (.Tuple es k p)) l env = pure false := by
  cases x <;> rfl
def tupB : Expr → Bool
  | .Tuple .. => true
  | _ => false
theorem tupB_st {x tg : Expr} {env : PySem.Env} (h : tupB x = false) : swappedStores [tg] x env = pure none := by
  cases x <;> first | exact Bool.noConfusion (show true = false from h) | (cases tg <;> rfl)
def augB : Bop → Operator → Bool
  | .add, .Add => true
  | .sub, .Sub => true
  | _, _ => false
/-- a, b = .., .. : two names on one row -/
def parB (sc : Scope) (x y : Str) (px py : Pos) (u w : Expr) : Bool := (sc.kind == .function && (decide (sc.names.lookup x = some .local) && decide (sc.names.lookup y = some .local))) && ((py.line == px.line && decide (y ≠ x)) && ((plainE u && plainE w) && (!([u, w].all (foldedForSure 8)) && !([u, w].all (constantsAlone 8)))))
theorem parB_sw {sc : Scope} {x y : Str} {px py pt pt2 : Pos} {kt k2 : Nat} {u w : Expr} {env : PySem.Env} (h : parB sc x y px py u w = true) (he : env.scope = sc) : swappedStores [.Tuple [.Name x px, .Name y py] kt pt] (.Tuple [u, w] k2 pt2) env = pure (some [x, y]) := by
  subst he
  unfold parB at h
  simp only [Bool.and_eq_true, decide_eq_true_eq, beq_iff_eq, Bool.not_eq_true'] at h
  obtain ⟨⟨h1, h2, h3⟩, ⟨h4, h5⟩, ⟨h6, h7⟩, h8, h9⟩ := h
  have bk : env.blockKind = .function := by unfold Env.blockKind; rw [h1]; rfl
  have k1 : env.kindOf x = some .local := h2
  have k2 : env.kindOf y = some .local := h3
  have st : ([u, w].any fun | .Starred .. => true | _ => false) = false := by
    cases u <;> cases w <;> first | rfl | exact Bool.noConfusion (show false = true from h6) | exact Bool.noConfusion (show false = true from h7)
  have nm : ([(Expr.Name x px), (Expr.Name y py)].filterMap fun
    | .Name id pos => if env.kindOf id == some .local && pos.line == px.line then some id else none
    | _ => none) = [x, y] := by
    simp only [List.filterMap_cons, List.filterMap_nil, k1, k2, h4, beq_self_eq_true, Bool.and_self, if_true]
  have ed : ([x, y] : List Str).eraseDups = [x, y] := by
    simp [List.eraseDups_cons, h5]
  unfold swappedStores
  simp only [List.length_cons, List.length_nil, bk]
  show (if ((!((2 : Nat) == 2 || (2 : Nat) == 3) || (2 : Nat) != 2 || (ScopeKind.function != ScopeKind.function)) = true) then _ else _) = _
  rw [if_neg (by decide)]
  refine (if_neg (fun z => ?_)).trans ?_
  · cases u <;> cases w <;> first | exact Bool.noConfusion (show false = true from h6) | exact Bool.noConfusion (show false = true from h7) | exact Bool.noConfusion (show false = true from z)
  have hd : (Option.map (fun x : Expr => x.pos.line) [Expr.Name x px, Expr.Name y py].head?).getD 0 = px.line := rfl
  simp only [hd, List.filterMap_cons, List.filterMap_nil, k1, k2, h4, beq_self_eq_true, Bool.and_self, if_true]
  rw [ed]
  simp only [List.length_cons, List.length_nil, bne_self_eq_false, Bool.or_self, h8, h9]
  rfl
def parD : Stmt → Option ((Str × Pos) × (Str × Pos) × Expr × Expr)
  | .Assign [.Tuple [.Name x px, .Name y py] _ _] (.Tuple [u, w] _ _) _ => some ((x, px), (y, py), u, w)
  | _ => none
theorem parD_ok {st : Stmt} {x y : Str} {px py : Pos} {u w : Expr} (h : parD st = some ((x, px), (y, py), u, w)) : ∃ kt pt k2 pt2 pos, st = .Assign [.Tuple [.Name x px, .Name y py] kt pt] (.Tuple [u, w] k2 pt2) pos := by
  unfold parD at h
  split at h
  · cases h; exact ⟨_, _, _, _, _, rfl⟩
  · cases h
/-- name = [..] on one row -/
def swB (sc : Scope) (y : Str) (l sl : Nat) : Expr → Bool
  | .ListComp _ _ bs pos => sc.kind == .function && decide (sc.names.lookup y = some .local) && (l == pos.line) && !(bs.names.any fun (n, k) => n == y && (k == .local || k == .cell))
  | _ => false
def celB (sc : Scope) (y : Str) : Bool := decide (sc.names.lookup y = some .cell)
theorem cel_sw {x : Expr} {y : Str} {p : Pos} {l : Nat} {env : PySem.Env} (h : env.scope.names.lookup y = some .cell) : swapsWith x (some (.Name y p)) l env = pure false := by
  have e : (env.kindOf y == some .local) = false := by
    unfold Env.kindOf
    rw [h]
    rfl
  cases x <;> first | rfl | (unfold swapsWith; simp only [e, Bool.and_false, Bool.false_and, pure_bind])
def raB : Stmt → Option (Str × List Expr)
  | .Raise (some (.Call (.Name x _) ys [] _)) none _ => some (x, ys)
  | _ => none
theorem raB_ok {st : Stmt} {x : Str} {ys : List Expr} (h : raB st = some (x, ys)) : ∃ p p2 pos, st = .Raise (some (.Call (.Name x p) ys [] p2)) none pos := by
  unfold raB at h
  split at h
  · cases h
    exact ⟨_, _, _, rfl⟩
  · cases h
def raK : Stmt → Option (Str × Str × Expr)
  | .Raise (some (.Call (.Name x _) [] [⟨some k, y, _⟩] _)) none _ => some (x, k, y)
  | _ => none
theorem raK_ok {st : Stmt} {x k : Str} {y : Expr} (h : raK st = some (x, k, y)) : ∃ p q p2 pos, st = .Raise (some (.Call (.Name x p) [] [⟨some k, y, q⟩] p2)) none pos := by
  unfold raK at h
  split at h
  · cases h
    exact ⟨_, _, _, _, rfl⟩
  · cases h
def msB : List Expr → Bool
  | [.Constant (.str _) _ _] => true
  | _ => false
theorem msB_ok {ys : List Expr} (h : msB ys = true) : ∃ m j p, ys = [.Constant (.str m) j p] := by
  unfold msB at h
  split at h
  · exact ⟨_, _, _, rfl⟩
  · cases h
def trB : Stmt → Option (List Stmt × Str × Str × Str × Str)
  | .Try body [.ExceptHandler (some (.Name c _)) (some n) [.Assign [.Name m _] (.Name n' _) _] _] [] [] _ => some (body, c, n, m, n')
  | _ => none
theorem trB_ok {st : Stmt} {body : List Stmt} {c n m n' : Str} (h : trB st = some (body, c, n, m, n')) : ∃ p1 p2 p3 p4 p5 p6, st = .Try body [.ExceptHandler (some (.Name c p1)) (some n) [.Assign [.Name m p2] (.Name n' p3) p4] p5] [] [] p6 := by
  unfold trB at h
  split at h
  · cases h
    exact ⟨_, _, _, _, _, _, rfl⟩
  · cases h
structure XS (T : Tb) (P : Pg) (cA : Nat → Addr) (lv : Nat) (X : Cx) (N : List Str) (sc : Scope) (fb : Str → Bool) (W : WX) : Prop extends XC T P cA lv X N sc fb W where
  hp : PassesOwn (model X.prog X.w) X.A X.env X.xe
  hs : X.stack = X.env :: X.outer
  hf : X.env.frame = some X.env.locals
  hx : X.ex = []
variable (T : Tb) (N : List Str)
mutual
def ckS : S → Scope → (Str → Bool) → Stmt → Bool
  | .nv, _, _, _ => true
  | .asg (.nm i) a, sc, fb, .Assign [.Name y p] x sp => ckN N sc fb i (.Name y p) && ckE T N a sc fb x && (!lcB x || swB sc y p.line sp.line x || celB sc y)
  | .asg (.tp is) a, sc, fb, .Assign [.Tuple es k p] x _ => ckG N sc fb (.tp is) (.Tuple es k p) && ckE T N a sc fb x && !tupB x
  | .seti a i x, sc, fb, .Assign [.Subscript o j _] y _ => (ckE T N a sc fb o && (ckE T N i sc fb j && plainE j)) && ckE T N x sc fb y && !lcB y
  | .aug i op a, sc, fb, .AugAssign (.Name y p) o x _ => ckN N sc fb i (.Name y p) && augB op o && ckE T N a sc fb x
  | .ex a, sc, fb, .Expr x _ => ckE T N a sc fb x && !lcB x
  | .ret a, sc, fb, .Return (some x) _ => ckE T N a sc fb x
  | .retN, _, _, .Return none _ => true
  | .ifs c a b, sc, fb, .If x xs ys _ => (ckE T N c sc fb x && tstB c) && (ckSs a sc fb xs && ckSs b sc fb ys)
  | .for_ tg it b, sc, fb, .For t i xs [] _ => (ckI T N it sc fb t i && plainE i) && (ckG N sc fb tg t && ckSs b sc fb xs)
  | .whl c b, sc, fb, .While x xs [] _ => (ckE T N c sc fb x && tstB c) && ckSs b sc fb xs
  | .raiseM k, sc, _, st => (match raB st with
    | some (x, ys) => decide (T.exs[k]? = some (x, false)) && ((glB sc x && dbgB x) && msB ys)
    | none => false)
  | .raise0 k, sc, _, st => (match raB st with
    | some (x, []) => decide (T.exs[k]? = some (x, false)) && (glB sc x && dbgB x)
    | _ => false)
  | .raiseT k a, sc, fb, st => (match raB st with
    | some (x, [y]) => decide (T.exs[k]? = some (x, false)) && ((glB sc x && dbgB x) && (ckE T N a sc fb y && plainE y))
    | _ => false)
  | .raiseV k _ a, sc, fb, st => (match raB st with
    | some (x, [y]) => decide (T.exs[k]? = some (x, true)) && ((glB sc x && dbgB x) && (ckE T N a sc fb y && plainE y))
    | _ => false)
  | .raiseK k _ a, sc, fb, st => (match raK st with
    | some (x, n, y) => (decide (T.exs[k]? = some (x, true)) && decide (n = "wrong")) && ((glB sc x && dbgB x) && (ckE T N a sc fb y && plainE y))
    | none => false)
  | .gz _ m, sc, fb, st => ckS m sc fb st
  | .par i j a b, sc, fb, st => (match parD st with
    | some ((x, px), (y, py), u, w) => ((decide (N[i]? = some x) && decide (N[j]? = some y)) && decide (i ≠ j)) && (parB sc x y px py u w && (ckE T N a sc fb u && ckE T N b sc fb w))
    | none => false)
  | .tryC b k x i, sc, fb, st => (match trB st with
    | some (body, c, n, m, n') => (match T.exs[k]? with
      | some (c', _) => decide (c' = c) && (glB sc c && dbgB c)
      | none => false) && ((decide (n' = n) && (decide (N[x]? = some n) && (decide (sc.names.lookup n = some .local) && dbgB n))) && ((decide (N[i]? = some m) && decide (sc.names.lookup m = some .local)) && ckSs b sc fb body))
    | none => false)
  | .setf k a f x, sc, fb, .Assign [.Attribute o n _] y _ => decide (1000 ≤ k) && (match T.cls[k - 1000]? with
    | some C => decide (f ∈ C.flds)
    | none => false) && (decide (f = n) && ckE T N a sc fb o) && (ckE T N x sc fb y && !lcB y)
  | .dput d k x, sc, fb, .Assign [.Subscript o j _] y _ => (ckE T N d sc fb o && (ckE T N k sc fb j && plainE j)) && ckE T N x sc fb y && !lcB y
  | .pass, _, _, .Pass _ => true
  | .brk, _, _, .Break _ => true
  | .cnt, _, _, .Continue _ => true
  | _, _, _, _ => false
def ckSs : Ss → Scope → (Str → Bool) → List Stmt → Bool
  | .nil, _, _, [] => true
  | .cons a r, sc, fb, x :: xs => ckS a sc fb x && ckSs r sc fb xs
  | _, _, _, _ => false
end
end
end G

namespace G
open PySem PySem.Spec PyProof.Rows L2
open Classical
noncomputable section
section
variable {T : Tb} {N : List Str} {P : Pg} {cA : Nat → Addr} {lv : Nat}
variable {K : PySem.W.Frag} {W : WX} {σ : L2.St} {H : Hp}
theorem swB_lc {sc : Scope} {y : Str} {l sl : Nat} {x : Expr} (h : swB sc y l sl x = true) : ∃ elt gs bs pos, x = .ListComp elt gs bs pos := by
  cases x <;> first | exact ⟨_, _, _, _, rfl⟩ | exact Bool.noConfusion (show false = true from h)
theorem swB_ok {X : Cx} {y : Str} {py spos : Pos} {elt : Expr} {gs : List Comprehension} {bs : Scope} {pos : Pos} (h : swB X.env.scope y py.line spos.line (.ListComp elt gs bs pos) = true) :
    X.env.scope.names.lookup y = some .local ∧ swapsWith (.ListComp elt gs bs pos) (some (.Name y py)) spos.line X.env = pure true := by
  have h' : (X.env.scope.kind == .function && decide (X.env.scope.names.lookup y = some .local) && (py.line == pos.line) && !(bs.names.any fun (n, k) => n == y && (k == .local || k == .cell))) = true := h
  simp only [Bool.and_eq_true, decide_eq_true_eq, Bool.not_eq_true'] at h'
  obtain ⟨⟨⟨h1, h2⟩, h3⟩, h4⟩ := h'
  have k1 : X.env.scope.kind = .function := by
    cases q : X.env.scope.kind <;> first | rfl | (rw [q] at h1; cases h1)
  exact ⟨h2, sw_true k1 h2 (by simpa using h3) h4⟩
theorem asg_lc : ∀ (m : E) {X : Cx} {sc : Scope} {fb : Str → Bool} {W : WX} {i : Nat} {y : Str} {py spos : Pos} {x : Expr}, ckE T N m sc fb x = true → XC T P cA lv X N sc fb W → X.N[i]? = some y → swB sc y py.line spos.line x = true →
    PS X (.Assign [.Name y py] x spos) (fun B σ H => tE X.K cA P W m σ H fun v H1 => gName i v σ H1 B.nx)
  | .frz a, X, sc, fb, W, i, y, py, spos, x, h, hX, hi, hw => PS.imp (asg_lc a h hX hi hw) fun _ _ _ z => rd_frz z
  | .lc fl el ow tg it q, X, sc, fb, W, i, y, py, spos, e, h, hX, hy, hw => by
    obtain ⟨x, gs, bs, pos, rfl⟩ := swB_lc hw
    match gs, h with
    | [⟨t, i, ifs, 0⟩], h =>
        have h' : (blkC N sc bs (ownOf N ow) && (decide ((ownOf N ow).map (·.2) = ow) && (tgS tg).all (fun j => decide (j ∈ ow))) &&
          (ckI T N it sc fb t i && plainE i) && (ckG N (relS bs sc) (fun x => bs.names.lookup x == some .cell) tg t && (ckC T N q (relS bs sc) (fun x => bs.names.lookup x == some .cell) ifs && ckE T N el (relS bs sc) (fun x => bs.names.lookup x == some .cell) x))) = true := h
        simp only [Bool.and_eq_true, decide_eq_true_eq, List.all_eq_true] at h'
        obtain ⟨⟨⟨h1, h2, h3⟩, h4, h5⟩, h6, h7, h8⟩ := h'
        have ok : BlkOk X.N X.env.scope bs (ownOf N ow) := by
          rw [hX.hN, hX.sc]
          exact blkOk_by h1
        rw [← hX.sc] at hw
        obtain ⟨w1, w2⟩ := swB_ok hw
        have q1 := ps_setLc (X := X) (elt := x) (tg := t) (iter := i) (ifs := ifs) (scope := bs) (own := ownOf N ow) (pos := pos) (spos := spos) (g := tG X.K cA tg) (tt := tC1 X.K cA P (fun _ _ _ _ => False) q) (te := tE X.K cA P (fun _ _ _ _ => False) el) hX.calm hX.nd hy w1 w2 (sndI it h4 hX) ok
          (fun s H C cl fp => by
            have hB := hX.blk s H C cl fp (bs := bs)
            refine pg_ck (X := X.blk s H bs (compEnvC bs cl C X.env) fp) (N := N) ?_ hB.hN hB.nd hB.calm
            rw [hB.sc, hB.fb]
            exact h6)
          (fun s H C cl fp => sndC q h7 (hX.blk s H C cl fp)) (fun s H C cl fp => (sndE el h8 (hX.blk s H C cl fp)).pe) (plain_set h5)
        rw [h2] at q1
        exact PS.imp q1 fun _ _ _ z => rd_lc h3 z
  | .lck fl el ow tg a q, X, sc, fb, W, i, y, py, spos, e, h, hX, hy, hw => by
    obtain ⟨x, gs, bs, pos, rfl⟩ := swB_lc hw
    match gs, h with
    | [⟨t, i, ifs, 0⟩], h =>
        have h' : (blkC N sc bs (ownOf N ow) && (decide ((ownOf N ow).map (·.2) = ow) && (tgS tg).all (fun j => decide (j ∈ ow))) &&
          (ckE T N a sc fb i && plainE i) && (ckG N (relS bs sc) (fun x => bs.names.lookup x == some .cell) tg t && (ckC T N q (relS bs sc) (fun x => bs.names.lookup x == some .cell) ifs && ckE T N el (relS bs sc) (fun x => bs.names.lookup x == some .cell) x))) = true := h
        simp only [Bool.and_eq_true, decide_eq_true_eq, List.all_eq_true] at h'
        obtain ⟨⟨⟨h1, h2, h3⟩, h4, h5⟩, h6, h7, h8⟩ := h'
        have ok : BlkOk X.N X.env.scope bs (ownOf N ow) := by
          rw [hX.hN, hX.sc]
          exact blkOk_by h1
        rw [← hX.sc] at hw
        obtain ⟨w1, w2⟩ := swB_ok hw
        have q1 := ps_setLc (X := X) (elt := x) (tg := t) (iter := i) (ifs := ifs) (scope := bs) (own := ownOf N ow) (pos := pos) (spos := spos) (g := tG X.K cA tg) (tt := tC1 X.K cA P (fun _ _ _ _ => False) q) (te := tE X.K cA P (fun _ _ _ _ => False) el) hX.calm hX.nd hy w1 w2 (pi_list (tg := t) (sndE a h4 hX).pe) ok
          (fun s H C cl fp => by
            have hB := hX.blk s H C cl fp (bs := bs)
            refine pg_ck (X := X.blk s H bs (compEnvC bs cl C X.env) fp) (N := N) ?_ hB.hN hB.nd hB.calm
            rw [hB.sc, hB.fb]
            exact h6)
          (fun s H C cl fp => sndC q h7 (hX.blk s H C cl fp)) (fun s H C cl fp => (sndE el h8 (hX.blk s H C cl fp)).pe) (plain_set h5)
        rw [h2] at q1
        exact PS.imp q1 fun _ _ _ z => rd_lck h3 z
  | .nv, _, _, _, _, _, _, _, _, x, h, _, _, hw => ⟨fun pins s σ H B I z => by
    obtain ⟨c, e, s, r, re, h⟩ := z
    exact h.elim⟩
  | .v i, _, _, _, _, _, _, _, _, x, h, _, _, hw => by obtain ⟨elt, gs, bs, pos, rfl⟩ := swB_lc hw; exact Bool.noConfusion (show false = true from h)
  | .k _, _, _, _, _, _, _, _, _, x, h, _, _, hw => by obtain ⟨elt, gs, bs, pos, rfl⟩ := swB_lc hw; exact Bool.noConfusion (show false = true from h)
  | .g _, _, _, _, _, _, _, _, _, x, h, _, _, hw => by obtain ⟨elt, gs, bs, pos, rfl⟩ := swB_lc hw; exact Bool.noConfusion (show false = true from h)
  | .tup _, _, _, _, _, _, _, _, _, x, h, _, _, hw => by obtain ⟨elt, gs, bs, pos, rfl⟩ := swB_lc hw; exact Bool.noConfusion (show false = true from h)
  | .lst _ _, _, _, _, _, _, _, _, _, x, h, _, _, hw => by obtain ⟨elt, gs, bs, pos, rfl⟩ := swB_lc hw; exact Bool.noConfusion (show false = true from h)
  | .dnew, _, _, _, _, _, _, _, _, x, h, _, _, hw => by obtain ⟨elt, gs, bs, pos, rfl⟩ := swB_lc hw; exact Bool.noConfusion (show false = true from h)
  | .bin _ _ _ _, _, _, _, _, _, _, _, _, x, h, _, _, hw => by obtain ⟨elt, gs, bs, pos, rfl⟩ := swB_lc hw; exact Bool.noConfusion (show false = true from h)
  | .neg _, _, _, _, _, _, _, _, _, x, h, _, _, hw => by obtain ⟨elt, gs, bs, pos, rfl⟩ := swB_lc hw; exact Bool.noConfusion (show false = true from h)
  | .nt _, _, _, _, _, _, _, _, _, x, h, _, _, hw => by obtain ⟨elt, gs, bs, pos, rfl⟩ := swB_lc hw; exact Bool.noConfusion (show false = true from h)
  | .cmp _ _ _, _, _, _, _, _, _, _, _, x, h, _, _, hw => by obtain ⟨elt, gs, bs, pos, rfl⟩ := swB_lc hw; exact Bool.noConfusion (show false = true from h)
  | .chn _ _ _ _ _, _, _, _, _, _, _, _, _, x, h, _, _, hw => by obtain ⟨elt, gs, bs, pos, rfl⟩ := swB_lc hw; exact Bool.noConfusion (show false = true from h)
  | .an _ _, _, _, _, _, _, _, _, _, x, h, _, _, hw => by obtain ⟨elt, gs, bs, pos, rfl⟩ := swB_lc hw; exact Bool.noConfusion (show false = true from h)
  | .orr _ _, _, _, _, _, _, _, _, _, x, h, _, _, hw => by obtain ⟨elt, gs, bs, pos, rfl⟩ := swB_lc hw; exact Bool.noConfusion (show false = true from h)
  | .ife _ _ _, _, _, _, _, _, _, _, _, x, h, _, _, hw => by obtain ⟨elt, gs, bs, pos, rfl⟩ := swB_lc hw; exact Bool.noConfusion (show false = true from h)
  | .ix _ _, _, _, _, _, _, _, _, _, x, h, _, _, hw => by obtain ⟨elt, gs, bs, pos, rfl⟩ := swB_lc hw; exact Bool.noConfusion (show false = true from h)
  | .sl _ _ _ _, _, _, _, _, _, _, _, _, x, h, _, _, hw => by obtain ⟨elt, gs, bs, pos, rfl⟩ := swB_lc hw; exact Bool.noConfusion (show false = true from h)
  | .rev _ _, _, _, _, _, _, _, _, _, x, h, _, _, hw => by obtain ⟨elt, gs, bs, pos, rfl⟩ := swB_lc hw; exact Bool.noConfusion (show false = true from h)
  | .call _ _, _, _, _, _, _, _, _, _, x, h, _, _, hw => by obtain ⟨elt, gs, bs, pos, rfl⟩ := swB_lc hw; exact Bool.noConfusion (show false = true from h)
  | .bi _ _ _, _, _, _, _, _, _, _, _, x, h, _, _, hw => by obtain ⟨elt, gs, bs, pos, rfl⟩ := swB_lc hw; exact Bool.noConfusion (show false = true from h)
  | .bi2 _ _ _, _, _, _, _, _, _, _, _, x, h, _, _, hw => by obtain ⟨elt, gs, bs, pos, rfl⟩ := swB_lc hw; exact Bool.noConfusion (show false = true from h)
  | .isi _ _, _, _, _, _, _, _, _, _, x, h, _, _, hw => by obtain ⟨elt, gs, bs, pos, rfl⟩ := swB_lc hw; exact Bool.noConfusion (show false = true from h)
  | .isx _ _, _, _, _, _, _, _, _, _, x, h, _, _, hw => by obtain ⟨elt, gs, bs, pos, rfl⟩ := swB_lc hw; exact Bool.noConfusion (show false = true from h)
  | .app _ _, _, _, _, _, _, _, _, _, x, h, _, _, hw => by obtain ⟨elt, gs, bs, pos, rfl⟩ := swB_lc hw; exact Bool.noConfusion (show false = true from h)
  | .ins _ _ _, _, _, _, _, _, _, _, _, x, h, _, _, hw => by obtain ⟨elt, gs, bs, pos, rfl⟩ := swB_lc hw; exact Bool.noConfusion (show false = true from h)
  | .lc2 fl el ow tg it tg2 it2 ow2 q, X, sc, fb, W, i, y, py, spos, e, h, hX, hy, hw => by
    obtain ⟨x, gs, bs, pos, rfl⟩ := swB_lc hw
    match gs, h with
    | [⟨t, i, [], 0⟩, ⟨t2, i2, ifs, 0⟩], h =>
        have h' : (blkC N sc bs (ownOf N ow) && (decide ((ownOf N ow).map (·.2) = ow) && (tgS tg).all (fun j => decide (j ∈ ow)) && ((tgS tg2).all (fun j => decide (j ∈ ow2)) && ow2.all (fun j => decide (j ∈ ow)))) &&
          (ckI T N it sc fb t i && plainE i) && (ckG N (relS bs sc) (fun x => bs.names.lookup x == some .cell) tg t && ((ckI T N it2 (relS bs sc) (fun x => bs.names.lookup x == some .cell) t2 i2 && plainE i2) && ckG N (relS bs sc) (fun x => bs.names.lookup x == some .cell) tg2 t2) && (ckC T N q (relS bs sc) (fun x => bs.names.lookup x == some .cell) ifs && ckE T N el (relS bs sc) (fun x => bs.names.lookup x == some .cell) x))) = true := h
        simp only [Bool.and_eq_true, decide_eq_true_eq, List.all_eq_true] at h'
        obtain ⟨⟨⟨h1, ⟨h2, h3⟩, h31, h32⟩, h4, h5⟩, ⟨h6, ⟨h61, h62⟩, h63⟩, h7, h8⟩ := h'
        have ok : BlkOk X.N X.env.scope bs (ownOf N ow) := by
          rw [hX.hN, hX.sc]
          exact blkOk_by h1
        rw [← hX.sc] at hw
        obtain ⟨w1, w2⟩ := swB_ok hw
        have q1 := ps_setLc2 (X := X) (spos := spos) (elt := x) (tg := t) (iter := i) (ifs := []) (tg1 := t2) (iter1 := i2) (ifs1 := ifs) (scope := bs) (own := ownOf N ow) (vs1 := ow2) (pos := pos) (g := tG X.K cA tg) (g1 := tG X.K cA tg2) (tt := tC1 X.K cA P (fun _ _ _ _ => False) .no) (tt1 := tC1 X.K cA P (fun _ _ _ _ => False) q) (wi1 := tI X.K cA P (fun _ _ _ _ => False) it2) (te := tE X.K cA P (fun _ _ _ _ => False) el) hX.calm hX.nd hy w1 w2 (sndI it h4 hX) ok (fun j hj => by rw [h2]; exact h32 j hj)
          (fun s H C cl fp => by
            have hB := hX.blk s H C cl fp (bs := bs)
            refine pg_ck (X := X.blk s H bs (compEnvC bs cl C X.env) fp) (N := N) ?_ hB.hN hB.nd hB.calm
            rw [hB.sc, hB.fb]
            exact h6)
          (fun s H C cl fp => sndC .no rfl (hX.blk s H C cl fp)) (fun s H C cl fp => sndI it2 h61 (hX.blk s H C cl fp))
          (fun s H C cl fp => by
            have hB := hX.blk s H C cl fp (bs := bs)
            refine pg_ck (X := X.blk s H bs (compEnvC bs cl C X.env) fp) (N := N) ?_ hB.hN hB.nd hB.calm
            rw [hB.sc, hB.fb]
            exact h63)
          (fun s H C cl fp => sndC q h7 (hX.blk s H C cl fp)) (fun s H C cl fp => (sndE el h8 (hX.blk s H C cl fp)).pe) (plain_set h5) (fun env => plain_set h62)
        rw [h2] at q1
        exact PS.imp q1 fun _ _ _ z => rd_lc2 h3 h31 z
  | .fld _ _, _, _, _, _, _, _, _, _, x, h, _, _, hw => by obtain ⟨elt, gs, bs, pos, rfl⟩ := swB_lc hw; exact Bool.noConfusion (show false = true from h)
  | .mk k _ _, _, _, _, _, _, _, _, _, x, h, _, _, hw => by obtain ⟨elt, gs, bs, pos, rfl⟩ := swB_lc hw; have h' : (decide (1000 ≤ k) && false) = true := h; rw [Bool.and_false] at h'; cases h'
  | .mc k _ _ _ _, _, _, _, _, _, _, _, _, x, h, _, _, hw => by obtain ⟨elt, gs, bs, pos, rfl⟩ := swB_lc hw; have h' : (decide (1000 ≤ k) && false) = true := h; rw [Bool.and_false] at h'; cases h'
  | .ifd _ _ _, _, _, _, _, _, _, _, _, x, h, _, _, hw => by obtain ⟨elt, gs, bs, pos, rfl⟩ := swB_lc hw; exact Bool.noConfusion (show false = true from h)
  | .up _, _, _, _, _, _, _, _, _, x, h, _, _, hw => by obtain ⟨elt, gs, bs, pos, rfl⟩ := swB_lc hw; exact Bool.noConfusion (show false = true from h)
  | .callk _ _ _, _, _, _, _, _, _, _, _, x, h, _, _, hw => by obtain ⟨elt, gs, bs, pos, rfl⟩ := swB_lc hw; exact Bool.noConfusion (show false = true from h)
  | .dsp _ _, _, _, _, _, _, _, _, _, x, h, _, _, hw => by obtain ⟨elt, gs, bs, pos, rfl⟩ := swB_lc hw; exact Bool.noConfusion (show false = true from h)
  | .dix _ _, _, _, _, _, _, _, _, _, x, h, _, _, hw => by obtain ⟨elt, gs, bs, pos, rfl⟩ := swB_lc hw; exact Bool.noConfusion (show false = true from h)
  | .dgt _ _ _, _, _, _, _, _, _, _, _, x, h, _, _, hw => by obtain ⟨elt, gs, bs, pos, rfl⟩ := swB_lc hw; exact Bool.noConfusion (show false = true from h)
  | .din _ _ _, _, _, _, _, _, _, _, _, x, h, _, _, hw => by obtain ⟨elt, gs, bs, pos, rfl⟩ := swB_lc hw; exact Bool.noConfusion (show false = true from h)
  | .sit _ _, _, _, _, _, _, _, _, _, x, h, _, _, hw => by obtain ⟨elt, gs, bs, pos, rfl⟩ := swB_lc hw; exact Bool.noConfusion (show false = true from h)
  | .lit _ _, _, _, _, _, _, _, _, _, x, h, _, _, hw => by obtain ⟨elt, gs, bs, pos, rfl⟩ := swB_lc hw; exact Bool.noConfusion (show false = true from h)
  | .srs _ _, _, _, _, _, _, _, _, _, x, h, _, _, hw => by obtain ⟨elt, gs, bs, pos, rfl⟩ := swB_lc hw; exact Bool.noConfusion (show false = true from h)
  | .lns _, _, _, _, _, _, _, _, _, x, h, _, _, hw => by obtain ⟨elt, gs, bs, pos, rfl⟩ := swB_lc hw; exact Bool.noConfusion (show false = true from h)
  | .dc _ _ _ _ _ _, _, _, _, _, _, _, _, _, x, h, _, _, hw => by obtain ⟨elt, gs, bs, pos, rfl⟩ := swB_lc hw; exact Bool.noConfusion (show false = true from h)
  | .idx _ _, _, _, _, _, _, _, _, _, x, h, _, _, hw => by obtain ⟨elt, gs, bs, pos, rfl⟩ := swB_lc hw; exact Bool.noConfusion (show false = true from h)
  | .cnt _ _, _, _, _, _, _, _, _, _, x, h, _, _, hw => by obtain ⟨elt, gs, bs, pos, rfl⟩ := swB_lc hw; exact Bool.noConfusion (show false = true from h)
  | .lrg _ _, _, _, _, _, _, _, _, _, x, h, _, _, hw => by obtain ⟨elt, gs, bs, pos, rfl⟩ := swB_lc hw; exact Bool.noConfusion (show false = true from h)
  | .clr _, _, _, _, _, _, _, _, _, x, h, _, _, hw => by obtain ⟨elt, gs, bs, pos, rfl⟩ := swB_lc hw; exact Bool.noConfusion (show false = true from h)
theorem ckN_n {i : Nat} {sc : Scope} {fb : Str → Bool} {y : Str} {p : Pos} {X : Cx} (h : ckN N sc fb i (.Name y p) = true) (hX : XC T P cA lv X N sc fb W) : X.N[i]? = some y ∧ L2.Loc X.env.scope y ∧ (X.fn y = true ∨ X.env.scope.names.lookup y = some .local) := by
  rw [← hX.sc, ← hX.fb] at h
  obtain ⟨x, pos, e, h1, h2, h3⟩ := ckN_ok h hX.hN hX.nd
  cases e
  exact ⟨h1, h2, h3⟩
theorem ckG_g {tg : Tg} {sc : Scope} {fb : Str → Bool} {t : Expr} {X : Cx} (h : ckG N sc fb tg t = true) (hX : XC T P cA lv X N sc fb W) : PG X t (tG X.K cA tg) := by
  rw [← hX.sc, ← hX.fb] at h
  exact pg_ck h hX.hN hX.nd hX.calm
mutual
theorem sndS : ∀ (m : S) {X : Cx} {sc : Scope} {fb : Str → Bool} {W : WX} {st : Stmt}, ckS T N m sc fb st = true → XS T P cA lv X N sc fb W → PS X st (tS X.K cA P W m)
  | .nv, X, sc, fb, W, st, h, hX => ⟨fun pins s σ H B I z => by
    obtain ⟨c, e, s, r, re, h⟩ := z
    exact h.elim⟩
  | .asg (.nm i) a, X, sc, fb, W, st, h, hX => by
    cases st with
    | Assign ts x sp =>
      match ts, h with
      | [.Name y p], h =>
        have h' : (ckN N sc fb i (.Name y p) && ckE T N a sc fb x && (!lcB x || swB sc y p.line sp.line x || celB sc y)) = true := h
        simp only [Bool.and_eq_true, Bool.or_eq_true, Bool.not_eq_true'] at h'
        obtain ⟨⟨h1, h2⟩, h3⟩ := h'
        obtain ⟨g1, g2, g3⟩ := ckN_n h1 hX.toXC
        rcases h3 with (h3 | h3) | h3
        · exact PS.imp (ps_set hX.nd g1 g2 (sndE a h2 hX.toXC).pe (lcB_sw h3) g3) fun _ _ _ z => rd_asgN z
        · exact PS.imp (asg_lc a h2 hX.toXC g1 h3) fun _ _ _ z => rd_asgN z
        · exact PS.imp (ps_set hX.nd g1 g2 (sndE a h2 hX.toXC).pe (cel_sw (by rw [hX.sc]; exact of_decide_eq_true h3)) g3) fun _ _ _ z => rd_asgN z
    | _ => exact Bool.noConfusion (show false = true from h)
  | .asg (.tp is) a, X, sc, fb, W, st, h, hX => by
    cases st with
    | Assign ts x sp =>
      match ts, h with
      | [.Tuple es k p], h =>
        have h' : (ckG N sc fb (.tp is) (.Tuple es k p) && ckE T N a sc fb x && !tupB x) = true := h
        simp only [Bool.and_eq_true, Bool.not_eq_true'] at h'
        obtain ⟨⟨h1, h2⟩, h4⟩ := h'
        exact PS.imp (ps_asg (sndE a h2 hX.toXC).pe (ckG_g h1 hX.toXC) (show swapsWith x (some (.Tuple es k p)) sp.line X.env = pure false from tup_sw) (tupB_st h4) rfl) fun _ _ _ z => rd_asg z
    | _ => exact Bool.noConfusion (show false = true from h)
  | .seti a i x, X, sc, fb, W, st, h, hX => by
    cases st with
    | Assign ts y sp =>
      match ts, h with
      | [.Subscript o j p], h =>
        have h' : ((ckE T N a sc fb o && (ckE T N i sc fb j && plainE j)) && ckE T N x sc fb y && !lcB y) = true := h
        simp only [Bool.and_eq_true, Bool.not_eq_true'] at h'
        obtain ⟨⟨⟨h1, h2, h3⟩, h4⟩, h5⟩ := h'
        exact PS.imp (ps_asg (sndE x h4 hX.toXC).pe (pg_sub (sndE a h1 hX.toXC).pe (sndE i h2 hX.toXC).pe ob_set (by intro v; cases j <;> first | rfl | exact Bool.noConfusion (show false = true from h3))) (show swapsWith y (some (.Subscript o j p)) sp.line X.env = pure false from lcB_sw h5)
          (by cases y <;> rfl) rfl) fun _ _ _ z => rd_seti z
    | _ => exact Bool.noConfusion (show false = true from h)
  | .setf k a f x, X, sc, fb, W, st, h, hX => by
    cases st with
    | Assign ts y sp =>
      match ts, h with
      | [.Attribute o n p], h =>
        have h' : (decide (1000 ≤ k) && (match T.cls[k - 1000]? with
          | some C => decide (f ∈ C.flds)
          | none => false) && (decide (f = n) && ckE T N a sc fb o) && (ckE T N x sc fb y && !lcB y)) = true := h
        simp only [Bool.and_eq_true, decide_eq_true_eq, Bool.not_eq_true'] at h'
        obtain ⟨⟨⟨h1, h2⟩, rfl, h3⟩, h4, h5⟩ := h'
        cases ec : T.cls[k - 1000]? with
        | none => rw [ec] at h2; exact Bool.noConfusion h2
        | some C =>
          rw [ec] at h2
          have CF := hX.toXC.g.cl _ C ec
          have ek : 1000 + (k - 1000) = k := by omega
          rw [ek] at CF
          exact PS.imp (ps_fld (sndE a h3 hX.toXC).pe (sndE x h4 hX.toXC).pe (show swapsWith y (some (.Attribute o f p)) sp.line X.env = pure false from lcB_sw h5)) fun _ _ _ z => rd_setf CF.cl (CF.na f (of_decide_eq_true h2)) z
    | _ => exact Bool.noConfusion (show false = true from h)
  | .dput d k x, X, sc, fb, W, st, h, hX => by
    cases st with
    | Assign ts y sp =>
      match ts, h with
      | [.Subscript o j p], h =>
        have h' : ((ckE T N d sc fb o && (ckE T N k sc fb j && plainE j)) && ckE T N x sc fb y && !lcB y) = true := h
        simp only [Bool.and_eq_true, Bool.not_eq_true'] at h'
        obtain ⟨⟨⟨h1, h2, h3⟩, h4⟩, h5⟩ := h'
        exact PS.imp (ps_dput (by have := hX.toXC.room.un; omega) (sndE d h1 hX.toXC).pe (sndE k h2 hX.toXC).pe (sndE x h4 hX.toXC).pe (show swapsWith y (some (.Subscript o j p)) sp.line X.env = pure false from lcB_sw h5)) fun _ _ _ z => rd_dput z
    | _ => exact Bool.noConfusion (show false = true from h)
  | .daug _ _ _ _, X, sc, fb, W, st, h, hX => by cases st <;> exact Bool.noConfusion (show false = true from h)
  | .aug i op a, X, sc, fb, W, st, h, hX => by
    cases st with
    | AugAssign t o x sp =>
      cases t with
      | Name y p =>
        have h' : (ckN N sc fb i (.Name y p) && augB op o && ckE T N a sc fb x) = true := h
        simp only [Bool.and_eq_true] at h'
        obtain ⟨⟨h1, h2⟩, h3⟩ := h'
        obtain ⟨g1, g2, g3⟩ := ckN_n h1 hX.toXC
        have fin : ∀ {o : Operator}, PIp X o (ipI (augF op)) → PS X (.AugAssign (.Name y p) o x sp) (tS X.K cA P W (.aug i op a)) := fun k => PS.imp (ps_aug hX.nd g1 g2 (sndE a h3 hX.toXC).pe k g3) fun _ _ _ z => rd_aug z
        cases op <;> cases o <;> first | exact Bool.noConfusion (show false = true from h2) | exact fin ip_add | exact fin ip_sub
      | _ => exact Bool.noConfusion (show false = true from h)
    | _ => exact Bool.noConfusion (show false = true from h)
  | .ex a, X, sc, fb, W, st, h, hX => by
    cases st with
    | Expr x sp =>
      have h' : (ckE T N a sc fb x && !lcB x) = true := h
      simp only [Bool.and_eq_true, Bool.not_eq_true'] at h'
      exact PS.imp (ps_expr (sndE a h'.1 hX.toXC).pe (lcB_sw h'.2)) fun _ _ _ z => rd_ex z
    | _ => exact Bool.noConfusion (show false = true from h)
  | .ret a, X, sc, fb, W, st, h, hX => by
    cases st with
    | Return x sp =>
      cases x with
      | none => exact Bool.noConfusion (show false = true from h)
      | some x => exact PS.imp (ps_ret (sndE a h hX.toXC).pe) fun _ _ _ z => rd_ret z
    | _ => exact Bool.noConfusion (show false = true from h)
  | .retN, X, sc, fb, W, st, h, hX => by
    cases st with
    | Return x sp =>
      cases x with
      | none => exact PS.imp ps_retN fun _ _ _ z => rd_retN z
      | some x => exact Bool.noConfusion (show false = true from h)
    | _ => exact Bool.noConfusion (show false = true from h)
  | .ifs c a b, X, sc, fb, W, st, h, hX => by
    cases st with
    | If x xs ys sp =>
      have h' : ((ckE T N c sc fb x && tstB c) && (ckSs T N a sc fb xs && ckSs T N b sc fb ys)) = true := h
      simp only [Bool.and_eq_true] at h'
      obtain ⟨⟨h1, h2⟩, h3, h4⟩ := h'
      exact PS.imp (ps_if ((sndE c h1 hX.toXC).pt h2) (sndSs a h3 hX) (sndSs b h4 hX)) fun _ _ _ z => rd_ifs z
    | _ => exact Bool.noConfusion (show false = true from h)
  | .for_ tg it b, X, sc, fb, W, st, h, hX => by
    cases st with
    | For t i xs es sp =>
      cases es with
      | nil =>
        have h' : ((ckI T N it sc fb t i && plainE i) && (ckG N sc fb tg t && ckSs T N b sc fb xs)) = true := h
        simp only [Bool.and_eq_true] at h'
        obtain ⟨⟨h1, h2⟩, h3, h4⟩ := h'
        exact PS.imp (ps_for hX.hp hX.calm (sndI it h1 hX.toXC) (ckG_g h3 hX.toXC) (sndSs b h4 hX) (plain_set h2)) fun _ _ _ z => rd_for z
      | cons _ _ => exact Bool.noConfusion (show false = true from h)
    | _ => exact Bool.noConfusion (show false = true from h)
  | .whl c b, X, sc, fb, W, st, h, hX => by
    cases st with
    | While x xs es sp =>
      cases es with
      | nil =>
        have h' : ((ckE T N c sc fb x && tstB c) && ckSs T N b sc fb xs) = true := h
        simp only [Bool.and_eq_true] at h'
        obtain ⟨⟨h1, h2⟩, h3⟩ := h'
        exact PS.imp (ps_while hX.hp ((sndE c h1 hX.toXC).pt h2) (sndSs b h3 hX)) fun _ _ _ z => rd_whl z
      | cons _ _ => exact Bool.noConfusion (show false = true from h)
    | _ => exact Bool.noConfusion (show false = true from h)
  | .pass, X, sc, fb, W, st, h, hX => by
    cases st with
    | Pass p => exact PS.imp ps_pass fun B σ H ⟨c, e, s, r, re, h⟩ => h.nx r re
    | _ => exact Bool.noConfusion (show false = true from h)
  | .brk, X, sc, fb, W, st, h, hX => by
    cases st with
    | Break p => exact PS.imp ps_break fun B σ H ⟨c, e, s, r, re, h⟩ => h c H σ (Ext.refl _ _) r re
    | _ => exact Bool.noConfusion (show false = true from h)
  | .cnt, X, sc, fb, W, st, h, hX => by
    cases st with
    | Continue p => exact PS.imp ps_continue fun B σ H ⟨c, e, s, r, re, h⟩ => h c H σ (Ext.refl _ _) r re
    | _ => exact Bool.noConfusion (show false = true from h)
  | .raiseM k, X, sc, fb, W, st, h, hX => by
    have h' : (match raB st with
      | some (x, ys) => decide (T.exs[k]? = some (x, false)) && ((glB sc x && dbgB x) && msB ys)
      | none => false) = true := h
    cases q : raB st with
    | none => rw [q] at h'; cases h'
    | some xy =>
      obtain ⟨x, ys⟩ := xy
      rw [q] at h'
      simp only [Bool.and_eq_true, decide_eq_true_eq] at h'
      obtain ⟨h1, ⟨h2, h3⟩, h4⟩ := h'
      obtain ⟨p, p2, pos, rfl⟩ := raB_ok q
      obtain ⟨m, j, p3, rfl⟩ := msB_ok h4
      obtain ⟨g1, g2, g3⟩ := dbgB_ok h3
      obtain ⟨k1, k2, k3⟩ := hX.g.ex.r0 k x h1
      obtain ⟨l1, l2⟩ := hX.g.ex.gl k x false h1
      exact PS.imp (ps_raise hX.calm hX.tk (pmk_own F.excBase_ValueError k1 l1 l2 (raises_own k2 k3) (glB_gl h2 hX.toXC) g1)) fun _ _ _ z => rd_raiseM z
  | .raise0 k, X, sc, fb, W, st, h, hX => by
    have h' : (match raB st with
      | some (x, []) => decide (T.exs[k]? = some (x, false)) && (glB sc x && dbgB x)
      | _ => false) = true := h
    cases q : raB st with
    | none => rw [q] at h'; cases h'
    | some xy =>
      obtain ⟨x, ys⟩ := xy
      rw [q] at h'
      match ys, h', q with
      | _ :: _, h', q => cases h'
      | [], h', q =>
      simp only [Bool.and_eq_true, decide_eq_true_eq] at h'
      obtain ⟨h1, h2, h3⟩ := h'
      obtain ⟨p, p2, pos, rfl⟩ := raB_ok q
      obtain ⟨g1, g2, g3⟩ := dbgB_ok h3
      obtain ⟨k1, k2, k3⟩ := hX.g.ex.r0 k x h1
      obtain ⟨l1, l2⟩ := hX.g.ex.gl k x false h1
      exact PS.imp (ps_raise hX.calm hX.tk (pmk_own0 F.excBase_ValueError k1 l1 l2 (raises_own k2 k3) (glB_gl h2 hX.toXC) g1)) fun _ _ _ z => rd_raise0 z
  | .raiseT k a, X, sc, fb, W, st, h, hX => by
    have h' : (match raB st with
      | some (x, [y]) => decide (T.exs[k]? = some (x, false)) && ((glB sc x && dbgB x) && (ckE T N a sc fb y && plainE y))
      | _ => false) = true := h
    cases q : raB st with
    | none => rw [q] at h'; cases h'
    | some xy =>
      obtain ⟨x, ys⟩ := xy
      rw [q] at h'
      match ys, h', q with
      | [], h', q => cases h'
      | _ :: _ :: _, h', q => cases h'
      | [y], h', q =>
      simp only [Bool.and_eq_true, decide_eq_true_eq] at h'
      obtain ⟨h1, ⟨h2, h3⟩, h4, h5⟩ := h'
      obtain ⟨p, p2, pos, rfl⟩ := raB_ok q
      obtain ⟨g1, g2, g3⟩ := dbgB_ok h3
      obtain ⟨k1, k2, k3⟩ := hX.g.ex.r0 k x h1
      obtain ⟨l1, l2⟩ := hX.g.ex.gl k x false h1
      exact PS.imp (ps_raise hX.calm hX.tk (SkE.pmk_own1 F.excBase_ValueError k1 l1 l2 (raises_own k2 k3) (glB_gl h2 hX.toXC) (sndE a h4 hX.toXC).pe (star_cons h5) g1)) fun _ _ _ z => rd_raiseT z
  | .raiseV k f a, X, sc, fb, W, st, h, hX => by
    have h' : (match raB st with
      | some (x, [y]) => decide (T.exs[k]? = some (x, true)) && ((glB sc x && dbgB x) && (ckE T N a sc fb y && plainE y))
      | _ => false) = true := h
    cases q : raB st with
    | none => rw [q] at h'; cases h'
    | some xy =>
      obtain ⟨x, ys⟩ := xy
      rw [q] at h'
      match ys, h', q with
      | [], h', q => cases h'
      | _ :: _ :: _, h', q => cases h'
      | [y], h', q =>
      simp only [Bool.and_eq_true, decide_eq_true_eq] at h'
      obtain ⟨h1, ⟨h2, h3⟩, h4, h5⟩ := h'
      obtain ⟨p, p2, pos, rfl⟩ := raB_ok q
      obtain ⟨g1, g2, g3⟩ := dbgB_ok h3
      obtain ⟨l1, l2⟩ := hX.g.ex.gl k x true h1
      obtain ⟨O, hno, fI, fd, i1, i2, i3, i4, _⟩ := hX.g.ini k x h1
      exact PS.imp (ps_raise hX.calm hX.tk (pmk_oex O i1 i2 i3 (hX.toXC.room.mono (show 1 + 1 ≤ lv + 3 by omega)) i4 .nil (passes_call (W := W) hX.tk fun _ _ _ _ z => z.elim) (glB_gl h2 hX.toXC) l1 (pa_cons (sndE a h4 hX.toXC).pe pa_nil (star_cons h5)) g1 (star_cons h5) rfl)) fun _ _ _ z => rd_raiseV O hno z
  | .raiseK k f a, X, sc, fb, W, st, h, hX => by
    have h' : (match raK st with
      | some (x, n, y) => (decide (T.exs[k]? = some (x, true)) && decide (n = "wrong")) && ((glB sc x && dbgB x) && (ckE T N a sc fb y && plainE y))
      | none => false) = true := h
    cases q : raK st with
    | none => rw [q] at h'; cases h'
    | some xy =>
      obtain ⟨x, n, y⟩ := xy
      rw [q] at h'
      simp only [Bool.and_eq_true, decide_eq_true_eq] at h'
      obtain ⟨⟨h1, rfl⟩, ⟨h2, h3⟩, h4, h5⟩ := h'
      obtain ⟨p, p3, p2, pos, rfl⟩ := raK_ok q
      obtain ⟨g1, g2, g3⟩ := dbgB_ok h3
      obtain ⟨l1, l2⟩ := hX.g.ex.gl k x true h1
      obtain ⟨O, hno, fI, fd, i1, i2, i3, i4, i5⟩ := hX.g.ini k x h1
      exact PS.imp (ps_raise hX.calm hX.tk (pmk_oexK (ks := ["wrong"]) O i1 i2 i3 (hX.toXC.room.mono (show 1 + 1 ≤ lv + 3 by omega)) rfl (fun s self ws X l => i5 s self ws X l) (passes_call (W := W) hX.tk fun _ _ _ _ z => z.elim) (glB_gl h2 hX.toXC) l1 (pk_cons (sndE a h4 hX.toXC).pe pk_nil) g1 rfl rfl rfl)) fun _ _ _ z => rd_raiseK O hno z
  | .par i j a b, X, sc, fb, W, st, h, hX => by
    have h' : (match parD st with
      | some ((x, px), (y, py), u, w) => ((decide (N[i]? = some x) && decide (N[j]? = some y)) && decide (i ≠ j)) && (parB sc x y px py u w && (ckE T N a sc fb u && ckE T N b sc fb w))
      | none => false) = true := h
    cases q : parD st with
    | none => rw [q] at h'; cases h'
    | some z =>
      obtain ⟨⟨x, px⟩, ⟨y, py⟩, u, w⟩ := z
      rw [q] at h'
      simp only [Bool.and_eq_true, decide_eq_true_eq] at h'
      obtain ⟨⟨⟨h1, h2⟩, h3⟩, h4, h5, h6⟩ := h'
      obtain ⟨kt, pt, k2, pt2, pos, rfl⟩ := parD_ok q
      have h4' := h4
      unfold parB at h4'
      simp only [Bool.and_eq_true, decide_eq_true_eq, beq_iff_eq, Bool.not_eq_true'] at h4'
      obtain ⟨⟨_, l1, l2⟩, _, ⟨p1, p2⟩, _⟩ := h4'
      exact PS.imp (ps_par hX.calm hX.nd (by rw [hX.hN]; exact h1) (by rw [hX.hN]; exact h2) h3 (by rw [hX.sc]; exact l1) (by rw [hX.sc]; exact l2) (pa_cons (sndE a h5 hX.toXC).pe (pa_cons (sndE b h6 hX.toXC).pe pa_nil (star_cons p2)) (star_cons p1)) (parB_sw h4 hX.sc)) fun _ _ _ z => rd_par z
  | .gz i m, X, sc, fb, W, st, h, hX => PS.imp (sndS m (show ckS T N m sc fb st = true from h) hX) fun _ _ _ z => rd_gz z
  | .tryC b k x i, X, sc, fb, W, st, h, hX => by
    have h' : (match trB st with
      | some (body, c, n, m, n') => (match T.exs[k]? with
        | some (c', _) => decide (c' = c) && (glB sc c && dbgB c)
        | none => false) && ((decide (n' = n) && (decide (N[x]? = some n) && (decide (sc.names.lookup n = some .local) && dbgB n))) && ((decide (N[i]? = some m) && decide (sc.names.lookup m = some .local)) && ckSs T N b sc fb body))
      | none => false) = true := h
    cases q : trB st with
    | none => rw [q] at h'; cases h'
    | some xy =>
      obtain ⟨body, c, n, m, n'⟩ := xy
      rw [q] at h'
      obtain ⟨p1, p2, p3, p4, p5, p6, rfl⟩ := trB_ok q
      simp only [Bool.and_eq_true, decide_eq_true_eq] at h'
      obtain ⟨h1, ⟨rfl, h2, h3, h4⟩, ⟨h5, h6⟩, h7⟩ := h'
      cases ek : T.exs[k]? with
      | none => rw [ek] at h1; cases h1
      | some cb =>
        obtain ⟨c', b'⟩ := cb
        rw [ek] at h1
        simp only [Bool.and_eq_true, decide_eq_true_eq] at h1
        obtain ⟨rfl, k1, k2⟩ := h1
        obtain ⟨l1, l2, l3⟩ := dbgB_ok k2
        obtain ⟨n1, n2, n3⟩ := dbgB_ok h4
        have hk : X.env.scope.names.lookup n' = some .local := by rw [hX.sc]; exact h3
        have hm : X.env.scope.names.lookup m = some .local := by rw [hX.sc]; exact h6
        refine PS.imp (ps_keep (X := X) (i := x) (tb := fun W => tSs X.K cA P W b) (ts := tAsg (tVar x) (gName i)) hX.hs hX.hf hX.hx hX.nd (by rw [hX.hN]; exact h2) hk ⟨glB_gl k1 hX.toXC, l1, .inl (hX.g.ex.gl k c' b' ek).1⟩ hX.tk
          (fun W' pn xe tk' hp' => sndSs b h7 { hN := hX.hN, nd := hX.nd, sc := hX.sc, fb := hX.fb, calm := hX.calm, room := hX.room, gd := hX.gd, tk := tk', g := hX.g, hp := hp', hs := hX.hs, hf := hX.hf, hx := hX.hx })
          (fun a pn => pss_one (ps_set (X := X.suite a pn) hX.nd (by show X.N[i]? = some m; rw [hX.hN]; exact h5) (.inl hm) (pe_var (X := X.suite a pn) (by show X.N[x]? = some n'; rw [hX.hN]; exact h2) (.inl hk) n1 n2) rfl (.inr hm)))) fun _ _ _ z => rd_tryC hX.g.ex z
theorem sndSs : ∀ (m : Ss) {X : Cx} {sc : Scope} {fb : Str → Bool} {W : WX} {st : List Stmt}, ckSs T N m sc fb st = true → XS T P cA lv X N sc fb W → PSs X st (tSs X.K cA P W m)
  | .nil, X, sc, fb, W, st, h, hX => by
    cases st with
    | nil => exact PSs.imp pss_nil fun B σ H ⟨c, e, s, r, re, h⟩ => h.nx r re
    | cons _ _ => exact Bool.noConfusion (show false = true from h)
  | .cons a r, X, sc, fb, W, st, h, hX => by
    cases st with
    | nil => exact Bool.noConfusion (show false = true from h)
    | cons x xs =>
      have h' : (ckS T N a sc fb x && ckSs T N r sc fb xs) = true := h
      simp only [Bool.and_eq_true] at h'
      refine PSs.imp (pss_cons (sndS a h'.1 hX) (sndSs r h'.2 hX)) ?_
      rintro B σ H ⟨c, e, s, r, re, h⟩
      simp only [exs] at h
      have h2 := h.nxt
      refine ⟨c, e, s, r, re, ?_⟩
      cases q : exe P a e s with
      | nx e1 s1 =>
        rw [q] at h2
        exact fun c1 H1 σ1 x1 r1 re1 => let ⟨c2, e2, s2, x2, r2, re2, z⟩ := h2 c1 H1 σ1 x1 r1 re1; ⟨c2, e2, s2, r2, re2, z⟩
      | bk e1 s1 => rw [q] at h2; exact h2
      | ct e1 s1 => rw [q] at h2; exact h2
      | rt d s1 => rw [q] at h2; exact h2
      | exc y e1 s1 => rw [q] at h2; exact h2
      | bad => rw [q] at h2; exact h2
end
end
end
end G

namespace G
open PySem PySem.Spec PyProof.Rows L2
open Classical
noncomputable section
/-! ### defs -/
/-- a def: its parameters, its slots, its text; does it hand out plain data and leave nothing behind? -/
structure FnI where
  n : Nat
  N : Nat
  body : Ss
  pure : Bool
def finO (F : FnI) (d : D) (s s' : Sto) : R D := if F.pure = true then rOr (frz 8 d s') fun q => rOr (cut s q.2) fun s3 => .ok (.p q.1) s3 else if isNone d = true then .ok d s' else rOr (cut s s') fun s3 => rOr (own s.length 8 d s' s3) fun q => .ok q.1 q.2.2
def plP : Option D → Bool
  | none => true
  | some (.p _) => true
  | _ => false
def finX (x : Xn) (s s' : Sto) : R D := if plP x.pl = true then rOr (cut s s') fun s3 => .exc x s3 else .bad
def runB (P : Pg) (F : FnI) (args : List D) (s : Sto) : R D := match exs P F.body (args.map some ++ List.replicate (F.N - args.length) none) s with
  | .nx _ s' => finO F (.p .none) s s'
  | .rt d s' => finO F d s s'
  | .exc x _ s' => finX x s s'
  | _ => .bad
def run (sb : Nat → Nat → Option Bool) (tb : List FnI) (gl : Nat → PyData) (W : Nat) : Nat → Nat → List D → Sto → R D
  | 0, _, _, _ => .bad
  | n + 1, f, args, s => match tb[f]? with
    | some F => if args.length = F.n then runB ⟨sb, run sb tb gl W n, gl, W⟩ F args s else .bad
    | none => .bad
def pgOf (sb : Nat → Nat → Option Bool) (tb : List FnI) (gl : Nat → PyData) (W n : Nat) : Pg := ⟨sb, run sb tb gl W n, gl, W⟩
section
variable {K : PySem.W.Frag} {cA : Nat → Addr}
theorem finO_ok {F : FnI} {d : D} {c c' : Cf} {H H' : Hp} {s s' : Sto} {v : V} {A : D → Sto → Cf → Hp → Prop} {W : Xn → Sto → Cf → Hp → Prop} (r : Rep K cA c H s) (x : Ext c H c' H') (r' : Rep K cA c' H' s') (hv : RepV K c' d v) (h : Post K cA c H (finO F d s s') A W) :
    ∃ d2 s2 c2, Rep K cA c2 H' s2 ∧ RepV K c2 d2 v ∧ A d2 s2 c2 H' := by
  unfold finO at h
  by_cases q : F.pure = true
  · rw [if_pos q] at h
    obtain ⟨⟨q1, s1⟩, e1, h⟩ := h.rOr
    obtain ⟨s3, e2, h⟩ := h.rOr
    obtain ⟨c2, f1, f2⟩ := frz_ok 8 e1 r' hv
    obtain ⟨g1, g2⟩ := r.cut (x.trans f1.e) f1.r e2
    exact ⟨.p q1, s3, ⟨c2.F, c.ι⟩, g1, f2, h _ _ g2 g1⟩
  · rw [if_neg q] at h
    by_cases q2 : isNone d = true
    · rw [if_pos q2] at h
      exact ⟨d, s', c', r', hv, h _ _ x r'⟩
    · rw [if_neg q2] at h
      obtain ⟨s3, e2, h⟩ := h.rOr
      obtain ⟨⟨d2, s4, a⟩, e3, h⟩ := h.rOr
      obtain ⟨ca, g1, g2, g3⟩ := own_end r x r' hv e2 e3
      exact ⟨d2, a, ca, g1, g3, h _ _ g2 g1⟩
theorem runB_ok {P : Pg} {F : FnI} {args : List D} {c : Cf} {H : Hp} {s : Sto} {Q : VK} {E : XK} {σ : L2.St} (r : Rep K cA c H s) (re : RelE K c (args.map some ++ List.replicate (F.N - args.length) none) σ)
    (h : Post K cA c H (runB P F args s) (okQ K Q) (fun x _ c' H' => ∀ cls dd, XnR K cA c' x cls dd → E cls dd H')) : tSs K cA P (fun cls d _ H => E cls d H) F.body { nx := fun _ H' => Q .non H', rt := Q } σ H := by
  refine ⟨c, _, s, r, re, ?_⟩
  unfold runB at h
  cases q : exs P F.body (args.map some ++ List.replicate (F.N - args.length) none) s with
  | nx e s' =>
    rw [q] at h
    intro c' H' σ' x r' re'
    obtain ⟨d2, s2, c2, k1, k2, k3⟩ := finO_ok (d := .p .none) (v := .non) r x r' Dq.non h
    exact k3 .non k2
  | rt d s' =>
    rw [q] at h
    intro c' H' v x r' hv
    obtain ⟨d2, s2, c2, k1, k2, k3⟩ := finO_ok r x r' hv h
    exact k3 v k2
  | exc y e s' =>
    rw [q] at h
    intro c' H' σ' x r' re' cls dd hx
    have h : Post K cA c H (finX y s s') (okQ K Q) (fun x _ c' H' => ∀ cls dd, XnR K cA c' x cls dd → E cls dd H') := h
    unfold finX at h
    obtain ⟨q1, h⟩ := h.if_
    obtain ⟨s3, e2, h⟩ := h.rOr
    obtain ⟨g1, g2⟩ := r.cut x r' e2
    refine h _ _ g2 g1 cls dd ⟨hx.1, ?_⟩
    have hx2 := hx.2
    cases ep : y.pl with
    | none =>
      rw [ep] at hx2
      exact hx2
    | some d =>
      rw [ep] at hx2 q1
      cases d with
      | p d => exact hx2
      | o n => cases q1
      | s l => cases q1
  | bk e s' => rw [q] at h; exact h.elim
  | ct e s' => rw [q] at h; exact h.elim
  | bad => rw [q] at h; exact h.elim
theorem relE_start {c : Cf} {N : List Str} {n : Nat} {args : List D} {vs : List V} (hv : RepVs K c args vs) (hn : n = N.length) : RelE K c (args.map some ++ List.replicate (n - args.length) none) (L2.start N vs) := by
  have hl := Paired.length hv
  unfold L2.start
  refine ⟨by simp [hl, hn], fun i d q => ?_⟩
  by_cases hi : i < args.length
  · rw [List.getElem?_append_left (by simpa using hi), List.getElem?_map] at q
    cases z : args[i]? with
    | none => rw [z] at q; cases q
    | some d' =>
      rw [z] at q
      cases q
      obtain ⟨w, h1, h2⟩ := repVs_get hv z
      refine ⟨w, ?_, h2⟩
      rw [List.getElem?_append_left (by rw [List.length_map, ← hl]; exact hi), List.getElem?_map, h1]
      rfl
  · rw [List.getElem?_append_right (by simpa using Nat.le_of_not_lt hi)] at q
    rw [List.getElem?_replicate] at q
    split at q <;> cases q
end
/-- what stands fast of a def -/
structure FnF (T : Tb) (K : PySem.W.Frag) (F : FnI) (a : Addr) (fd : FuncData) (ps ks : List Str) : Prop where
  ex : ∃ (qual : Str) (params : Arguments) (body : List Stmt) (scope : Scope) (dvs : List V) (kws : List (Str × V)) (N : List Str) (nm : Str), FunD K nm qual params body scope dvs kws a fd ∧ FnScope N ps scope ∧ ps.length = F.n ∧ F.N = N.length ∧ ckSs T N F.body scope (fun _ => true) body = true
  bd : ks = [] → L2.Binds K fd ps []
  bA : ks = [] → ∀ (s : Shared) (us : List Value), us.length = ps.length → BindsTo s fd ⟨us, []⟩ (ps.zip us)
  kl : ks = [] ∨ ks.length < ps.length
  kb : L2.KBn K fd ps (F.n - ks.length) ks (fun us ws => us ++ ws) (fun vs zs => vs ++ zs)
/-- the table of the defs stands fast -/
structure TbF (T : Tb) (sb : Nat → Nat → Option Bool) (cA : Nat → Addr) (tb : List FnI) (gl : Nat → PyData) (K : PySem.W.Frag) (mg : Str → Option Value) : Prop where
  fn : ∀ (f : Nat) (x : Str) (n : Nat), T.fns[f]? = some (some x, n) → ∃ F a fd ps, tb[f]? = some F ∧ F.n = n ∧ FnF T K F a fd ps (kwOf T f) ∧ mg x = some (.ref a)
  cl : ∀ (k : Nat) (C : ClI), T.cls[k]? = some C → mg C.nm = some (.ref (cA (1000 + k))) ∧ Cls K (cA (1000 + k)) ∧ (∀ f ∈ C.flds, NoAttr K (cA (1000 + k)) f) ∧
    (∀ n, T.fns[C.ini]? = some (none, n) → ∃ F a fd ps, tb[C.ini]? = some F ∧ F.n = n ∧ FnF T K F a fd ps [] ∧ Mk K (cA (1000 + k)) a) ∧
    ∀ m f, (m, f) ∈ C.mths → ∀ n, T.fns[f]? = some (none, n) → ∃ F a fd ps, tb[f]? = some F ∧ F.n = n ∧ FnF T K F a fd ps [] ∧ Meth K (cA (1000 + k)) m a
  gl : ∀ (i : Nat) (x : Str), T.gls[i]? = some x → ∃ u v, mg x = some u ∧ RelV v u ∧ ∀ F : Hp, Dq K F v (gl i)
  fr : ∀ x ∈ T.fr, mg x = none
  ex : ExF K mg cA T.exs sb
  ini : ∀ (k : Nat) (x : Str), T.exs[k]? = some (x, true) → OexC K (cA k) ∧ PySem.W.findIn K (.ref (cA k)) "wrong" = some none ∧ ∃ fI fd, PySem.W.findIn K (.ref (cA k)) "__init__" = some (some (.ref fI)) ∧ PySem.W.typeIn K (.ref fI) = some (.type "function") ∧ L2.Binds K fd ["self", "wrong"] [] ∧ KwI K fd ∧
    ∃ (nm qual B : Str) (params : Arguments) (body : List Stmt) (scope : Scope) (b : Addr), FunD K nm qual params body scope [] [] fI fd ∧ FnScope ["self", "wrong"] ["self", "wrong"] scope ∧ iniB scope B body = true ∧ mg B = some (.ref b) ∧ IniK K b
theorem fnG_step {T : Tb} {sb : Nat → Nat → Option Bool} {tb : List FnI} {gl : Nat → PyData} {W m f n : Nat} {F : FnI} {a : Addr} {fd : FuncData} {ps ks : List Str} {cA : Nat → Addr} {prog : Program} {w : World} {K : PySem.W.Frag} {mg : Str → Option Value} {base : Heap}
    (ih : Gb T (pgOf sb tb gl W m) cA (4 * m) prog w K mg base) (e1 : tb[f]? = some F) (e2 : F.n = n) (hF : FnF T K F a fd ps ks) : FnG prog w K mg base (4 * (m + 1)) a fd ps (spF K cA (pgOf sb tb gl W (m + 1)) f n) := by
  obtain ⟨qual, params, body, scope, dvs, kws, N, nm, k1, k2, k3, k4, k5⟩ := hF.ex
  obtain ⟨oc, od, dV, kV, doc, pm, an, cdv, ct, osl, rfl, lk, hcd, _, _⟩ := k1.ex
  have hlen : ∀ vs H Q E, spF K cA (pgOf sb tb gl W (m + 1)) f n vs H Q E → vs.length = ps.length := fun vs H Q E ⟨c, ds, s, r, hv, hl, z⟩ => by
    rw [← Paired.length hv]
    omega
  have e3 : 4 * (m + 1) = (4 * m + 3) + 1 := by omega
  rw [e3]
  refine fn_ofG lk hcd k2 hlen fun A outer s H vs Q E hr hg hsp => ?_
  obtain ⟨c, ds, st, r, hv, hl, z⟩ := hsp
  have z2 : Post K cA c H (runB (pgOf sb tb gl W m) F ds st) (okQ K Q) (fun x _ c' H' => ∀ cls dd, XnR K cA c' x cls dd → E cls dd H') := by
    have z1 : Post K cA c H (run sb tb gl W (m + 1) f ds st) (okQ K Q) (fun x _ c' H' => ∀ cls dd, XnR K cA c' x cls dd → E cls dd H') := z
    simp only [run, e1] at z1
    rw [if_pos (by omega)] at z1
    exact z1
  refine ⟨_, sndSs (lv := 4 * m) (W := fun cls d _ H => E cls d H) F.body (X := cxOf (L2.CX prog w) prog w K mg base N qual scope a cdv A outer s H E) k5 ?_, runB_ok (E := E) r (relE_start (N := N) hv k4) z2⟩
  exact { hN := rfl, nd := k2.nd, sc := rfl, fb := rfl, calm := rfl, room := hr, gd := hg, tk := takes_of rfl rfl rfl rfl, g := ih, hp := passes_of rfl, hs := rfl, hf := rfl, hx := rfl }
theorem fnG_zero {T : Tb} {sb : Nat → Nat → Option Bool} {tb : List FnI} {gl : Nat → PyData} {W f n : Nat} {F : FnI} {a : Addr} {fd : FuncData} {ps ks : List Str} {cA : Nat → Addr} {prog : Program} {w : World} {K : PySem.W.Frag} {mg : Str → Option Value} {base : Heap} {lv : Nat}
    (e2 : F.n = n) (hF : FnF T K F a fd ps ks) : FnG prog w K mg base lv a fd ps (spF K cA (pgOf sb tb gl W 0) f n) := by
  obtain ⟨qual, params, body, scope, dvs, kws, N, nm, k1, k2, k3, k4, k5⟩ := hF.ex
  refine ⟨fun vs H Q E ⟨c, ds, s, r, hv, hl, z⟩ => ?_, fun A outer s H args us vs Q E hr hg e0 hb hv z => ?_⟩
  · rw [← Paired.length hv]
    omega
  · obtain ⟨c, ds, s, r, hv, hl, z⟩ := z
    exact z.elim
theorem gb_of {T : Tb} {sb : Nat → Nat → Option Bool} {tb : List FnI} {gl : Nat → PyData} {W : Nat} {cA : Nat → Addr} {prog : Program} {w : World} {K : PySem.W.Frag} {mg : Str → Option Value} {base : Heap} (h : TbF T sb cA tb gl K mg) : ∀ n, Gb T (pgOf sb tb gl W n) cA (4 * n) prog w K mg base := by
  have key : ∀ n, (∀ f j F a fd ps ks, tb[f]? = some F → F.n = j → FnF T K F a fd ps ks → FnG prog w K mg base (4 * n) a fd ps (spF K cA (pgOf sb tb gl W n) f j)) → Gb T (pgOf sb tb gl W n) cA (4 * n) prog w K mg base := fun n key => by
    refine ⟨fun k C e => ?_, fun f x j e => ?_, h.gl, h.fr, h.ex, fun k x e => let ⟨o, hw, fI, fd, i1, i2, i3, i6, nm, qual, B, params, body, scope, b, j1, j2, j3, j4, j5⟩ := h.ini k x e; ⟨o, hw, fI, fd, i1, i2, ini_ok j1 j2 j3 j4 j5, i3, i6⟩⟩
    · obtain ⟨c1, c2, c3, c4, c5⟩ := h.cl k C e
      refine ⟨c1, c2, c3, fun j ej => ?_, fun m f hm j ej => ?_⟩
      · obtain ⟨F, a, fd, ps, e1, e2, hF, M⟩ := c4 j ej
        exact ⟨a, fd, ps, M, key _ j F a fd ps _ e1 e2 hF, hF.bd rfl⟩
      · obtain ⟨F, a, fd, ps, e1, e2, hF, M⟩ := c5 m f hm j ej
        exact ⟨a, fd, ps, M, key _ j F a fd ps _ e1 e2 hF, hF.bd rfl⟩
    · obtain ⟨F, a, fd, ps, e1, e2, hF, hm⟩ := h.fn f x j e
      obtain ⟨qual, params, body, scope, dvs, kws, N, nm, k1, k2, k3, k4, k5⟩ := hF.ex
      exact ⟨a, fd, ps, key _ j F a fd ps _ e1 e2 hF, hm, k1.kp, hF.bd, by rw [← e2]; exact hF.kb⟩
  intro n
  induction n with
  | zero => exact key 0 fun f j F a fd ps ks e1 e2 hF => fnG_zero e2 hF
  | succ m ih => exact key (m + 1) fun f j F a fd ps ks e1 e2 hF => fnG_step ih e1 e2 hF
end
end G

namespace G
open PySem PySem.Spec PyProof.Rows L2
open Classical
noncomputable section
/-! ### a head by facts of one's own -/
def obsK (ok : PySem.W.Frag → Bool) (fn : List He.DefD) (K : PySem.W.Frag) : He.AlD := (ok K && fn.all fun d => d.ok K, fn.map fun d => He.fnW K d.at_)
def SaysK (ok : PySem.W.Frag → Bool) (fn : List He.DefD) (K : PySem.W.Frag) : Prop := obsK ok fn K = He.valD fn
def asK (g : Addr → Option Obj) : Nat → List Addr
  | 0 => [mainGlobals, PySem.cStatics]
  | n + 1 => He.growD g (asK g n)
def obsT (n : Nat) (ok : PySem.W.Frag → Bool) (fn : List He.DefD) (g : Addr → Option Obj) : He.AlD := obsK ok fn (He.frG g (asK g n))
def hookK (n : Nat) (ok : PySem.W.Frag → Bool) (fn : List He.DefD) : PySem.W.Hook where
  α := He.AlD
  obs s := obsT n ok fn s.heap.get?
  val _ := He.valD fn
  says _ h := ∃ K : PySem.W.Frag, K.In h ∧ SaysK ok fn K
  of _ _ e := ⟨_, He.frG_in, e⟩
  keeps _ _ _ z k := let ⟨K, hK, c⟩ := z; ⟨K, PySem.W.Frag.In.keeps hK k, c⟩
theorem obsT_eq {n : Nat} {ok : PySem.W.Frag → Bool} {fn : List He.DefD} {g : Addr → Option Obj} {s : Shared} (h : ∀ a, g a = s.heap.get? a) : obsT n ok fn g = (hookK n ok fn).obs s := by
  rw [show g = s.heap.get? from funext h]
  rfl
section
variable {ok : PySem.W.Frag → Bool} {fn : List He.DefD} {K : PySem.W.Frag}
theorem SaysK.parts (c : SaysK ok fn K) : ok K = true ∧ (fn.all fun d => d.ok K) = true ∧ (fn.map fun d => He.fnW K d.at_) = fn.map He.DefD.val := by
  have c1 : (ok K && fn.all fun d => d.ok K) = true := congrArg (fun z : He.AlD => z.1) c
  obtain ⟨c2, c3⟩ := Bool.and_eq_true_iff.mp c1
  exact ⟨c2, c3, congrArg (fun z : He.AlD => z.2) c⟩
theorem SaysK.dd (c : SaysK ok fn K) {i : Nat} {d : He.DefD} (h : fn[i]? = some d) : ∃ fd, FunD K d.name d.qual d.params d.body d.scope (d.dvs K) (d.kws K) (He.fAd K d.at_) fd := by
  obtain ⟨_, c2, e⟩ := c.parts
  have q := congrArg (fun l => l[i]?) e
  simp only [List.getElem?_map, h] at q
  exact He.DefD.funD (Option.some.inj q) (List.all_eq_true.mp c2 d (List.mem_of_getElem? h))
end
/-! ### the static side -/
structure FnT where
  d : He.DefD
  N : List Str
  ps : List Str
  F : FnI
/-- a def's keyword-only names -/
def kwn (t : FnT) : List Str := t.d.params.kwonlyargs.map (·.arg)
def BindT (t : FnT) : Prop := ∀ (kV doc pm : Value) (an : Option Addr) (cdv ct : Value) (us : List Value), us.length = t.ps.length → bindArgs (PySem.W.fnOf t.d.name t.d.qual t.d.params t.d.body t.d.scope .none kV doc pm an cdv ct) ⟨us.take (t.ps.length - (kwn t).length), (kwn t).zip (us.drop (t.ps.length - (kwn t).length))⟩ = pure (t.ps.zip us)
def AllT {α : Type} (p : α → Prop) : List α → Prop
  | [] => True
  | x :: xs => p x ∧ AllT p xs
theorem AllT.get {α : Type} {p : α → Prop} : ∀ {l : List α}, AllT p l → ∀ {i : Nat} {x : α}, l[i]? = some x → p x
  | [], _, i, x, h => by cases h
  | y :: l, a, 0, x, h => by cases h; exact a.1
  | y :: l, a, i + 1, x, h => AllT.get a.2 (by simpa using h)
def fsB (N P : List Str) (sc : Scope) : Bool := (sc.kind == .function) && (!sc.isCoroutine && (!sc.isGenerator && (decide N.Nodup && (decide (N.take P.length = P) && (P.all (fun x => decide (sc.names.lookup x = some .local ∨ sc.names.lookup x = some .cell)) && sc.names.all fun y => decide (y.2 ≠ .free))))))
theorem fsB_ok {N P : List Str} {sc : Scope} (h : fsB N P sc = true) : FnScope N P sc := by
  unfold fsB at h
  simp only [Bool.and_eq_true, decide_eq_true_eq, Bool.not_eq_true', List.all_eq_true] at h
  obtain ⟨h1, h2, h3, h4, h5, h6, h7⟩ := h
  refine ⟨?_, h2, h3, h4, h5, fun x hx => h6 x hx, fun y hy => h7 y hy⟩
  cases q : sc.kind <;> first | rfl | (rw [q] at h1; cases h1)
def stF (T : Tb) (t : FnT) : Bool := decide (kwn t = [] ∨ (kwn t).length < t.ps.length) && fsB t.N t.ps t.d.scope && (decide (t.ps.length = t.F.n) && (decide (t.F.N = t.N.length) && (t.d.dfl.isEmpty && (t.d.kwd.isEmpty && ckSs T t.N t.F.body t.d.scope (fun _ => true) t.d.body))))
/-- plain constants of the modules -/
def dvP : PyData → Option He.Dv
  | .none => some .non
  | .bool b => some (.bl b)
  | .int i => some (.int i)
  | .str z => some (.str z)
  | _ => none
def gOk (K : PySem.W.Frag) (x : Str) : PyData → Bool
  | .int i => (He.Fa.int x i).ok K
  | .str z => (He.Fa.str x z).ok K
  | .tuple ds => (He.Fa.glo x).ok K && ((ds.all fun d => (dvP d).isSome) && He.tupB K x (ds.filterMap dvP))
  | _ => false
theorem dvP_ok {K : PySem.W.Frag} {F : Hp} : ∀ {ds : List PyData}, (ds.all fun d => (dvP d).isSome) = true → DqAll K F ((ds.filterMap dvP).map (He.Dv.v K)) ds
  | [], _ => .nil
  | d :: ds, h => by
    rw [List.all_cons, Bool.and_eq_true] at h
    obtain ⟨h1, h2⟩ := h
    cases d with
    | none => exact .cons .non (dvP_ok h2)
    | bool b => exact .cons (.bl b) (dvP_ok h2)
    | int i => exact .cons (.int i) (dvP_ok h2)
    | str z => exact .cons (.str z) (dvP_ok h2)
    | list l => cases h1
    | tuple l => cases h1
    | dict l => cases h1
theorem gOk_ok {K : PySem.W.Frag} {h : Heap} {mg : Str → Option Value} {x : Str} {d : PyData} (X : K.In h) (M : h.Ns mainGlobals mg) (c : gOk K x d = true) : ∃ u v, mg x = some u ∧ RelV v u ∧ ∀ F : Hp, Dq K F v d := by
  cases d with
  | int i =>
    obtain ⟨t, e⟩ := He.int_ok X M c
    exact ⟨_, .int i, e, ⟨t, rfl⟩, fun F => .int i⟩
  | str z =>
    obtain ⟨t, e⟩ := He.str_ok X M c
    exact ⟨_, .str z, e, ⟨t, rfl⟩, fun F => .str z⟩
  | tuple ds =>
    have c' : ((He.Fa.glo x).ok K && ((ds.all fun d => (dvP d).isSome) && He.tupB K x (ds.filterMap dvP))) = true := c
    simp only [Bool.and_eq_true] at c'
    obtain ⟨c1, c2, c3⟩ := c'
    exact ⟨_, .ref (He.ga K x), He.glo_ok X M c1, rfl, fun F => .tup (He.tupB_ok c3 F) (dvP_ok c2)⟩
  | none => cases c
  | bool b => cases c
  | list l => cases c
  | dict l => cases c
/-- an own exception class: its own __init__, the class whose __init__ that calls -/
structure ExT where
  nm : Str
  ini : Option (He.DefD × Str)
structure LawT where
  fts : List FnT
  nms : List (Option Str)
  cls : List ClI
  gls : List (Str × PyData)
  fr : List Str
  exs : List ExT
  sbt : List (List Bool)
def LawT.T (L : LawT) : Tb := ⟨L.nms.zip (L.fts.map fun t => t.F.n), L.cls, L.gls.map (·.1), L.fr, L.exs.map fun e => (e.nm, e.ini.isSome), L.fts.map kwn⟩
def LawT.tb (L : LawT) : List FnI := L.fts.map (·.F)
def LawT.gl (L : LawT) (i : Nat) : PyData := match L.gls[i]? with
  | some p => p.2
  | none => .none
def LawT.sb (L : LawT) (k j : Nat) : Option Bool := match L.sbt[k]? with
  | some l => l[j]?
  | none => none
def iniD (l : List ExT) : List He.DefD := l.filterMap fun e => e.ini.map (·.1)
def LawT.fn (L : LawT) : List He.DefD := L.fts.map (·.d) ++ iniD L.exs
def LawT.cA (L : LawT) (K : PySem.W.Frag) (k : Nat) : Addr := if 1000 ≤ k then (match L.cls[k - 1000]? with
  | some C => He.ga K C.nm
  | none => 0) else match L.exs[k]? with
  | some e => He.ga K e.nm
  | none => 0
def clOk (K : PySem.W.Frag) (C : ClI) : Bool := (He.Fa.glo C.nm).ok K && ((He.Fa.cls C.nm).ok K && ((C.flds.all fun f => (He.Fa.noat C.nm f).ok K) && ((He.Fa.mkr C.nm).ok K && C.mths.all fun m => (He.Fa.meth C.nm m.1).ok K)))
def clSt (fts : List FnT) (C : ClI) : Bool := (match fts[C.ini]? with
  | some t => decide (t.d.at_ = (C.nm, some ("__init__" : Str)))
  | none => false) && C.mths.all fun m => match fts[m.2]? with
    | some t => decide (t.d.at_ = (C.nm, some m.1))
    | none => false
def inkB (K : PySem.W.Frag) (B : Addr) : Bool := decide (PySem.W.specialIn K (.ref B) "__getattribute__" = some (some (.builtin "type.__getattribute__"))) && (PySem.W.readsIn K B (.type "type") && (match PySem.W.findCls K (.ref B) (.type "type") "__init__" with
  | some (.val (.builtin n)) => n == "ValueError.__init__"
  | _ => false))
theorem inkB_ok {K : PySem.W.Frag} {B : Addr} (h : inkB K B = true) : IniK K B := by
  unfold inkB at h
  simp only [Bool.and_eq_true, decide_eq_true_eq] at h
  obtain ⟨h1, h2, h3⟩ := h
  refine ⟨h1, h2, ?_⟩
  split at h3
  · rename_i n q
    rw [q, eq_of_beq h3]
  · cases h3
def exOk (K : PySem.W.Frag) (e : ExT) : Bool := (He.Fa.glo e.nm).ok K && (exaB K (He.ga K e.nm) && (decide (PySem.W.kitOne K (.type "NoneType") (.ref (He.ga K e.nm)) = some false) && (decide (PySem.W.kitOne K (.ref (He.ga K e.nm)) (.type "ValueError") = some true) && (match e.ini with
  | none => (He.Fa.exc e.nm).ok K
  | some q => oexB K (He.ga K e.nm) && (decide (PySem.W.findIn K (.ref (He.ga K e.nm)) "__init__" = some (some (.ref (He.ma K (He.ga K e.nm) "__init__")))) && (decide (PySem.W.typeIn K (.ref (He.ma K (He.ga K e.nm) "__init__")) = some (.type "function")) && ((He.Fa.glo q.2).ok K && inkB K (He.ga K q.2))))))))
def sbOk (K : PySem.W.Frag) (L : LawT) : Bool := (List.range L.exs.length).all fun k => (List.range L.exs.length).all fun j => match L.sb k j with
  | some b => decide (PySem.W.exmOne K (.ref (L.cA K k)) (.ref (L.cA K j)) = some b) && decide (PySem.W.kitOne K (.ref (L.cA K k)) (.ref (L.cA K j)) = some b)
  | none => true
def nmOk (K : PySem.W.Frag) : Option Str → Bool
  | some x => (He.Fa.glo x).ok K
  | none => true
def LawT.ok (L : LawT) (K : PySem.W.Frag) : Bool := (L.nms.all (nmOk K) && L.cls.all (clOk K)) && ((L.fr.all fun x => (He.Fa.free x).ok K) && ((L.gls.all fun p => gOk K p.1 p.2) && ((L.exs.all fun e => exOk K e) && sbOk K L)))
def exSt (e : ExT) : Bool := match e.ini with
  | none => true
  | some (d, B) => decide (d.at_ = (e.nm, some ("__init__" : Str))) && (fsB ["self", "wrong"] ["self", "wrong"] d.scope && (iniB d.scope B d.body && (d.dfl.isEmpty && d.kwd.isEmpty)))
def nmSt (p : Option Str × FnT) : Bool := match p.1 with
  | some x => decide (p.2.d.at_ = (x, none))
  | none => decide (kwn p.2 = [])
def LawT.st (L : LawT) : Bool := ((L.nms.zip L.fts).all nmSt && (L.cls.all (clSt L.fts) && decide (L.exs.length ≤ 1000))) && (L.fts.all (stF L.T) && (L.exs.all exSt && (decide (L.sbt.length ≤ L.exs.length) && L.sbt.all fun l => decide (l.length ≤ L.exs.length))))
def BindE (e : ExT) : Prop := match e.ini with
  | none => True
  | some (d, _) => ∀ (kV doc pm : Value) (an : Option Addr) (cdv ct : Value) (us : List Value), us.length = ([("self" : Str), "wrong"]).length → bindArgs (PySem.W.fnOf d.name d.qual d.params d.body d.scope .none kV doc pm an cdv ct) ⟨us, []⟩ = pure (([("self" : Str), "wrong"]).zip us) ∧ bindArgs (PySem.W.fnOf d.name d.qual d.params d.body d.scope .none kV doc pm an cdv ct) ⟨us.take 1, ([("wrong" : Str)]).zip (us.drop 1)⟩ = pure (([("self" : Str), "wrong"]).zip us)
theorem tbF_of {L : LawT} {K : PySem.W.Frag} {h : Heap} {mg : Str → Option Value} (X : K.In h) (M : h.Ns mainGlobals mg) (c : SaysK L.ok L.fn K) (st : L.st = true) (bd : AllT BindT L.fts) (be : AllT BindE L.exs) : TbF L.T L.sb (L.cA K) L.tb L.gl K mg := by
  have okk := c.parts.1
  unfold LawT.ok at okk
  simp only [Bool.and_eq_true, List.all_eq_true] at okk
  obtain ⟨⟨o1, o6⟩, o2, o3, o4, o5⟩ := okk
  unfold LawT.st at st
  simp only [Bool.and_eq_true, decide_eq_true_eq, List.all_eq_true] at st
  obtain ⟨⟨s1, s6, s7⟩, s2, s3, s4, s5⟩ := st
  have exK : ∀ {k : Nat} {e : ExT}, L.exs[k]? = some e → L.cA K k = He.ga K e.nm ∧ exOk K e = true ∧ exSt e = true ∧ BindE e := fun {k e} q => ⟨by
    have lk := (List.getElem?_eq_some_iff.mp q).1
    unfold LawT.cA
    rw [if_neg (by omega), q], o4 e (List.mem_of_getElem? q), s3 e (List.mem_of_getElem? q), be.get q⟩
  have exG : ∀ {k : Nat} {x : Str} {b : Bool}, L.T.exs[k]? = some (x, b) → ∃ e, L.exs[k]? = some e ∧ e.nm = x ∧ e.ini.isSome = b := fun {k x b} q => by
    have q' : (L.exs.map fun e => (e.nm, e.ini.isSome))[k]? = some (x, b) := q
    rw [List.getElem?_map] at q'
    cases z : L.exs[k]? with
    | none => rw [z] at q'; cases q'
    | some e =>
      rw [z] at q'
      cases q'
      exact ⟨e, rfl, rfl, rfl⟩
  have sbE : ∀ {k j : Nat} {b : Bool}, L.sb k j = some b → ∃ e e', L.exs[k]? = some e ∧ L.exs[j]? = some e' := fun {k j b} q => by
    unfold LawT.sb at q
    split at q
    · rename_i l ql
      have h1 := (List.getElem?_eq_some_iff.mp ql).1
      have h2 := (List.getElem?_eq_some_iff.mp q).1
      have h3 := s5 l (List.mem_of_getElem? ql)
      exact ⟨L.exs[k], L.exs[j], List.getElem?_eq_getElem (by omega), List.getElem?_eq_getElem (by omega)⟩
    · cases q
  have ftF : ∀ (f : Nat) (t : FnT), L.fts[f]? = some t → ∃ fd, FnF L.T K t.F (He.fAd K t.d.at_) fd t.ps (kwn t) ∧ t.ps.length = t.F.n := by
    intro f t q
    have sf := s2 t (List.mem_of_getElem? q)
    unfold stF at sf
    simp only [Bool.and_eq_true, decide_eq_true_eq, List.isEmpty_iff] at sf
    obtain ⟨⟨f0, f1⟩, f2, f3, f4, f5, f6⟩ := sf
    obtain ⟨fd, FD⟩ := c.dd (i := f) (d := t.d) (by
      show (L.fts.map (·.d) ++ iniD L.exs)[f]? = _
      rw [List.getElem?_append_left (by rw [List.length_map]; exact (List.getElem?_eq_some_iff.mp q).1), List.getElem?_map, q]
      rfl)
    have e3 : t.d.dvs K = [] := by unfold He.DefD.dvs; rw [f4]; rfl
    rw [e3] at FD
    have b0 := bd.get q
    have b1 : kwn t = [] → ∀ (kV doc pm : Value) (an : Option Addr) (cdv ct : Value) (us : List Value), us.length = t.ps.length → bindArgs (PySem.W.fnOf t.d.name t.d.qual t.d.params t.d.body t.d.scope .none kV doc pm an cdv ct) ⟨us, []⟩ = pure (t.ps.zip us) := fun hz kV doc pm an cdv ct us hl => by
      have z := b0 kV doc pm an cdv ct us hl
      rw [hz] at z
      rw [show t.ps.length - ([] : List Str).length = us.length from by rw [hl]; rfl, List.take_length] at z
      exact z
    refine ⟨fd, ⟨⟨_, _, _, _, _, _, t.N, t.d.name, FD, fsB_ok f1, f2, f3, f6⟩, fun hz => FD.bindsN (b1 hz), fun hz s us hl => FD.bindsA (b1 hz) s us hl, f0, ⟨fun s us ws X l1 l2 => ?_, fun r1 r2 => r1.append r2⟩⟩, f2⟩
    obtain ⟨oc, od, dV, kV, doc, pm, an, cdv, ct, osl, rfl, lk, hcd, hD, hK⟩ := FD.ex
    rcases hD with ⟨_, rfl⟩ | ⟨e, _⟩
    · have ln : t.ps.length - (kwn t).length = us.length := by omega
      have z := b0 kV doc pm an cdv ct (us ++ ws) (by
        have : (kwn t).length ≤ t.ps.length := by
          rcases f0 with h | h
          · rw [h]; exact Nat.zero_le _
          · omega
        rw [List.length_append]; omega)
      rw [ln, List.take_left, List.drop_left] at z
      exact .of_eq z
    · exact absurd rfl e
  have kwK : ∀ {f : Nat} {t : FnT}, L.fts[f]? = some t → kwOf L.T f = kwn t := fun {f t} q => by
    show ((L.fts.map kwn)[f]?).getD [] = kwn t
    rw [List.getElem?_map, q]
    rfl
  have ftN : ∀ (f : Nat) (x : Option Str) (n : Nat), L.T.fns[f]? = some (x, n) → ∃ t, L.fts[f]? = some t ∧ L.tb[f]? = some t.F ∧ t.F.n = n ∧ L.nms[f]? = some x := by
    intro f x n e
    have e' : (L.nms.zip (L.fts.map fun t => t.F.n))[f]? = some (x, n) := e
    rw [List.getElem?_zip_eq_some] at e'
    obtain ⟨e1, e2⟩ := e'
    rw [List.getElem?_map] at e2
    cases q : L.fts[f]? with
    | none => rw [q] at e2; cases e2
    | some t =>
      rw [q] at e2
      cases e2
      exact ⟨t, rfl, by show (L.fts.map (·.F))[f]? = _; rw [List.getElem?_map, q]; rfl, rfl, e1⟩
  have kwN : ∀ {f : Nat} {t : FnT}, L.fts[f]? = some t → L.nms[f]? = some none → kwn t = [] := fun {f t} q e3 => by
    have z := s1 (none, t) (by
      refine List.mem_of_getElem? (i := f) ?_
      rw [List.getElem?_zip_eq_some]
      exact ⟨e3, q⟩)
    exact of_decide_eq_true z
  refine ⟨fun f x n e => ?_, fun k C e => ?_, fun i x e => ?_, fun x hx => He.free_ok X M (o2 x hx), ⟨fun k x b e => ?_, fun k j b e => ?_, fun k b e => ?_, fun k x e => ?_⟩, fun k x e => ?_⟩
  · obtain ⟨t, q, e1, e2, e3⟩ := ftN f (some x) n e
    obtain ⟨fd, F, _⟩ := ftF f t q
    have at_ : t.d.at_ = (x, none) := by
      have z := s1 (some x, t) (by
        refine List.mem_of_getElem? (i := f) ?_
        rw [List.getElem?_zip_eq_some]
        exact ⟨e3, q⟩)
      exact of_decide_eq_true z
    have e4 : He.fAd K t.d.at_ = He.ga K x := by rw [at_]; rfl
    exact ⟨t.F, _, fd, t.ps, e1, e2, by rw [kwK q]; exact F, by rw [e4]; exact He.glo_ok X M (o1 (some x) (List.mem_of_getElem? e3))⟩
  · have e : L.cls[k]? = some C := e
    have cc := o6 C (List.mem_of_getElem? e)
    have cs := s6 C (List.mem_of_getElem? e)
    unfold clOk at cc
    unfold clSt at cs
    simp only [Bool.and_eq_true, List.all_eq_true] at cc cs
    obtain ⟨c1, c2, c3, c4, c5⟩ := cc
    obtain ⟨d1, d2⟩ := cs
    have ea : L.cA K (1000 + k) = He.ga K C.nm := by
      unfold LawT.cA
      rw [if_pos (by omega)]
      have : 1000 + k - 1000 = k := by omega
      rw [this, e]
    rw [ea]
    refine ⟨He.glo_ok X M c1, He.cls_ok c2, fun f hf => He.noat_ok (c3 f hf), fun n en => ?_, fun m f hm n en => ?_⟩
    · obtain ⟨t, q, e1, e2, e3⟩ := ftN _ _ n en
      rw [q] at d1
      have at_ : t.d.at_ = (C.nm, some ("__init__" : Str)) := of_decide_eq_true d1
      obtain ⟨fd, F, _⟩ := ftF _ t q
      have e4 : He.fAd K t.d.at_ = He.ma K (He.ga K C.nm) "__init__" := by rw [at_]; rfl
      rw [e4] at F
      rw [kwN q e3] at F
      exact ⟨t.F, _, fd, t.ps, e1, e2, F, He.mkr_ok c4⟩
    · obtain ⟨t, q, e1, e2, e3⟩ := ftN _ _ n en
      have dm := d2 (m, f) hm
      dsimp only at dm
      rw [q] at dm
      have at_ : t.d.at_ = (C.nm, some m) := of_decide_eq_true dm
      obtain ⟨fd, F, _⟩ := ftF _ t q
      have e4 : He.fAd K t.d.at_ = He.ma K (He.ga K C.nm) m := by rw [at_]; rfl
      rw [e4] at F
      rw [kwN q e3] at F
      exact ⟨t.F, _, fd, t.ps, e1, e2, F, He.meth_ok (c5 (m, f) hm)⟩
  · have e' : (L.gls.map (·.1))[i]? = some x := e
    rw [List.getElem?_map] at e'
    cases q : L.gls[i]? with
    | none => rw [q] at e'; cases e'
    | some p =>
      rw [q] at e'
      cases e'
      have z := gOk_ok X M (o3 p (List.mem_of_getElem? q))
      have e5 : L.gl i = p.2 := by unfold LawT.gl; rw [q]
      rw [e5]
      exact z
  · obtain ⟨e', q, rfl, rfl⟩ := exG e
    obtain ⟨k1, k2, k3, k4⟩ := exK q
    unfold exOk at k2
    simp only [Bool.and_eq_true, decide_eq_true_eq] at k2
    rw [k1]
    exact ⟨He.glo_ok X M k2.1, (exaB_ok k2.2.1).kp⟩
  · obtain ⟨e1, e2, q1, q2⟩ := sbE e
    obtain ⟨k1, k2, k3, k4⟩ := exK q1
    unfold exOk at k2
    simp only [Bool.and_eq_true, decide_eq_true_eq] at k2
    unfold sbOk at o5
    simp only [List.all_eq_true, List.mem_range] at o5
    have z := o5 k (List.getElem?_eq_some_iff.mp q1).1 j (List.getElem?_eq_some_iff.mp q2).1
    rw [e] at z
    simp only [Bool.and_eq_true, decide_eq_true_eq] at z
    exact ⟨by rw [k1]; exact exaB_ok k2.2.1, z.1, z.2⟩
  · obtain ⟨e1, e2, q1, q2⟩ := sbE e
    obtain ⟨k1, k2, k3, k4⟩ := exK q1
    unfold exOk at k2
    simp only [Bool.and_eq_true, decide_eq_true_eq] at k2
    rw [k1]
    exact ⟨k2.2.2.1, k2.2.2.2.1⟩
  · obtain ⟨e', q, rfl, hi⟩ := exG e
    obtain ⟨k1, k2, k3, k4⟩ := exK q
    unfold exOk at k2
    simp only [Bool.and_eq_true, decide_eq_true_eq] at k2
    have k5 := k2.2.2.2.2
    cases z : e'.ini with
    | some p => rw [z] at hi; cases hi
    | none =>
      rw [z] at k5
      obtain ⟨l1, l2, l3, l4⟩ := He.exc_ok k5
      rw [k1]
      exact ⟨l1, l3, l4⟩
  · obtain ⟨e', q, rfl, hi⟩ := exG e
    obtain ⟨k1, k2, k3, k4⟩ := exK q
    unfold exOk at k2
    simp only [Bool.and_eq_true, decide_eq_true_eq] at k2
    have k5 := k2.2.2.2.2
    cases z : e'.ini with
    | none => rw [z] at hi; cases hi
    | some p =>
      obtain ⟨d, B⟩ := p
      rw [z] at k5
      simp only [Bool.and_eq_true, decide_eq_true_eq] at k5
      obtain ⟨l1, l2, l3, l4, l5⟩ := k5
      unfold exSt at k3
      rw [z] at k3
      simp only [Bool.and_eq_true, decide_eq_true_eq, List.isEmpty_iff] at k3
      obtain ⟨m1, m2, m3, m4, m5⟩ := k3
      unfold BindE at k4
      rw [z] at k4
      have hm : d ∈ L.fn := List.mem_append_right _ (List.mem_filterMap.mpr ⟨e', List.mem_of_getElem? q, by rw [z]; rfl⟩)
      obtain ⟨i, hi⟩ := List.mem_iff_getElem?.mp hm
      obtain ⟨fd, FD⟩ := c.dd hi
      have e3 : d.dvs K = [] := by unfold He.DefD.dvs; rw [m4]; rfl
      have e5 : d.kws K = [] := by unfold He.DefD.kws; rw [m5]; rfl
      have e4 : He.fAd K d.at_ = He.ma K (He.ga K e'.nm) "__init__" := by rw [m1]; rfl
      rw [e3, e4, e5] at FD
      rw [k1]
      have kw : KwI K fd := fun s self ws X l => by
        obtain ⟨oc, od, dV, kV, doc, pm, an, cdv, ct, osl, rfl, lk, hcd, hD, hK⟩ := FD.ex
        rcases hD with ⟨_, rfl⟩ | ⟨e, _⟩
        · match ws, l with
          | [w], _ => exact .of_eq ((k4 kV doc pm an cdv ct [self, w] rfl).2)
        · exact absurd rfl e
      exact ⟨oexB_ok l1, (exaB_ok k2.2.1).nw, _, fd, l2, l3, FD.bindsN (fun a b c d e f g h => (k4 a b c d e f g h).1), kw, _, _, B, _, _, _, _, FD, fsB_ok m2, m3, He.glo_ok X M l4, inkB_ok l5⟩
/-! ### the law's end -/
theorem dq_ints {K : PySem.W.Frag} {F : Hp} : ∀ ns : List Int, DqAll K F (ns.map V.int) (ns.map PyData.int)
  | [] => .nil
  | n :: ns => .cons (.int n) (dq_ints ns)
theorem law_end {l : PySem.W.OpenLaw} {q : Program} {loose : List Str} {XP : (Str → Option Value) → Heap → Prop} {d : DefRec} {L : LawT} {t : FnT} {fL W n : Nat} (hn : l.most = some 63) (hdf : d.params.defaults = []) (hr : Room (4 * (n + 1)) callerA)
    (st : L.st = true) (bd : AllT BindT L.fts) (be : AllT BindE L.exs) (ht : L.fts[fL]? = some t) (h1 : t.F.n = 1) (hnm : L.nms[fL]? = some (some d.name))
    (law : ∀ ns : List Int, ns.length ≤ 63 → ∃ s, run L.sb L.tb L.gl W (n + 1) fL [.s (ns.map PyData.int)] [] = .ok (.p (.bool true)) s) :
    PySem.W.WalkO q loose XP (hookK 6 L.ok L.fn).says l.row.toRowW d [] (fun f vs => PySem.call f vs) := by
  refine Att.attach_call hn hdf fun w s₀ s₁ mg mb fa o pm cd doc a vs ns G Y ho hd hcd hmg hobj hints hlen hg => ?_
  obtain ⟨K, KX, c⟩ := Y
  have tf := tbF_of KX G.T.g c st bd be
  obtain ⟨F, fa', fd, ps, e1, e2, hF, hFm⟩ := tf.fn fL d.name t.F.n (by
    show (L.nms.zip (L.fts.map fun t => t.F.n))[fL]? = _
    rw [List.getElem?_zip_eq_some, List.getElem?_map, ht]
    exact ⟨hnm, rfl⟩)
  have ea : fa' = fa := by
    have z := hFm.symm.trans hmg
    cases z
    rfl
  subst ea
  obtain ⟨qual, params, body, scope, dvs, kws, N, nm, k1, k2, k3, k4, k5⟩ := id hF.ex
  obtain ⟨x, rfl⟩ : ∃ x, ps = [x] := by
    have : ps.length = 1 := by omega
    match ps, this with
    | [x], _ => exact ⟨x, rfl⟩
  have hk0 : kwOf L.T fL = [] := by
    rcases hF.kl with h | h
    · exact h
    · have : ([x] : List Str).length = 1 := rfl
      exact List.length_eq_zero_iff.mp (by omega)
  obtain ⟨sE, hE⟩ := law ns hlen
  refine law_callG (sp := spF K (L.cA K) (pgOf L.sb L.tb L.gl W (n + 1)) fL 1) KX G.T.g G.T.b G.T.builtins G.T.nolimit hg hobj hints (Nat.le_trans hlen (by decide)) hr (fun base _ _ => ?_) (fun s u => hF.bA hk0 s [u] rfl) fun H hO hS => ?_
  · exact fnG_step (gb_of tf n) e1 (by omega) hF
  · refine ⟨⟨H, []⟩, [.s (ns.map PyData.int)], [], ⟨fun _ _ z => z, rfl, List.nodup_nil, fun a m => (by cases m), fun n x a z => by cases z⟩, .cons ⟨a, _, rfl, hS, dq_ints ns⟩ .nil, rfl, ?_⟩
    show Post K _ _ H (run L.sb L.tb L.gl W (n + 1) fL [.s (ns.map PyData.int)] []) _ _
    rw [hE]
    intro c' H' _ _ v hv
    cases hv
    rfl
end
end G

namespace G
open PySem PySem.Spec PyProof.Rows L2
open Classical
noncomputable section
/-! ### evaluating by rows -/
section
variable {P : Pg} {e e1 : Env} {s s1 s2 s3 : Sto} {α β : Type}
theorem rOr_some (a : α) (k : α → R β) : rOr (some a) k = k a := rfl
def vr : Option (Option D) → Sto → R D
  | some (some d), s => .ok d s
  | _, _ => .bad
theorem vr_s (d : D) : vr (some (some d)) s = .ok d s := rfl
def brR (x : D) (a b : R D) : R D := match dBool x with
  | some true => a
  | some false => b
  | none => .bad
theorem brR_t (a b : R D) : brR (.p (.bool true)) a b = a := rfl
theorem brR_f (a b : R D) : brR (.p (.bool false)) a b = b := rfl
theorem ev_v (i : Nat) : ev P (.v i) e s = vr (e[i]?) s := by
  simp only [ev]
  cases e[i]? with
  | none => rfl
  | some o => cases o <;> rfl
theorem ev_k (d : PyData) : ev P (.k d) e s = .ok (.p d) s := by simp only [ev]
theorem ev_g (i : Nat) : ev P (.g i) e s = .ok (.p (P.gl i)) s := by simp only [ev]
theorem ev_tup (es : Es) : ev P (.tup es) e s = (evs P es e s).bind fun xs s1 => mkT xs s1 := by simp only [ev]
theorem ev_lst (fl : Bool) (es : Es) : ev P (.lst fl es) e s = (evs P es e s).bind fun xs s1 => mkL fl xs s1 := by simp only [ev]
theorem ev_bin (op : Bop) (fl : Bool) (a b : E) : ev P (.bin op fl a b) e s = (ev P a e s).bind fun x s1 => (ev P b e s1).bind fun y s2 => binop op fl x y s2 := by simp only [ev]
theorem ev_neg (a : E) : ev P (.neg a) e s = (ev P a e s).bind fun x s1 => rOr (dInt x) fun i => .ok (.p (.int (-i))) s1 := by simp only [ev]
theorem ev_nt (a : E) : ev P (.nt a) e s = (ev P a e s).bind fun x s1 => rOr (dBool x) fun b => .ok (.p (.bool (!b))) s1 := by simp only [ev]
theorem ev_cmp (op : Cop) (a b : E) : ev P (.cmp op a b) e s = (ev P a e s).bind fun x s1 => (ev P b e s1).bind fun y s2 => cmpop op x y s2 := by simp only [ev]
theorem ev_chn (o1 o2 : Cop) (a b c : E) : ev P (.chn o1 o2 a b c) e s = (ev P a e s).bind fun x s1 => (ev P b e s1).bind fun y s2 => (cmpop o1 x y s2).bind fun z s3 => brR z ((ev P c e s3).bind fun w s4 => cmpop o2 y w s4) (.ok (.p (.bool false)) s3) := by
  simp only [ev]
  congr; funext x s1; congr; funext y s2; congr; funext z s3
  unfold brR rOr
  cases dBool z with
  | none => rfl
  | some q => cases q <;> rfl
theorem ev_an (a b : E) : ev P (.an a b) e s = (ev P a e s).bind fun x s1 => brR x (ev P b e s1) (.ok (.p (.bool false)) s1) := by
  simp only [ev]
  congr; funext x s1
  unfold brR rOr
  cases dBool x with
  | none => rfl
  | some q => cases q <;> rfl
theorem ev_orr (a b : E) : ev P (.orr a b) e s = (ev P a e s).bind fun x s1 => brR x (.ok (.p (.bool true)) s1) (ev P b e s1) := by
  simp only [ev]
  congr; funext x s1
  unfold brR rOr
  cases dBool x with
  | none => rfl
  | some q => cases q <;> rfl
theorem ev_ife (t a b : E) : ev P (.ife t a b) e s = (ev P t e s).bind fun x s1 => brR x (ev P a e s1) (ev P b e s1) := by
  simp only [ev]
  congr; funext x s1
  unfold brR rOr
  cases dBool x with
  | none => rfl
  | some q => cases q <;> rfl
theorem ev_ix (a i : E) : ev P (.ix a i) e s = (ev P a e s).bind fun x s1 => (ev P i e s1).bind fun y s2 => ixop x y s2 := by simp only [ev]
theorem ev_sl (fl : Bool) (a : E) (lo hi : Eo) : ev P (.sl fl a lo hi) e s = (ev P a e s).bind fun x s1 => (evo P lo e s1).bind fun l s2 => (evo P hi e s2).bind fun h s3 => slop fl x l h s3 := by simp only [ev]
theorem ev_rev (fl : Bool) (a : E) : ev P (.rev fl a) e s = (ev P a e s).bind fun x s1 => revop fl x s1 := by simp only [ev]
theorem ev_call (f : Nat) (es : Es) : ev P (.call f es) e s = (evs P es e s).bind fun xs s1 => P.Φ f xs s1 := by simp only [ev]
theorem ev_bi (b : Bi) (fl : Bool) (a : E) : ev P (.bi b fl a) e s = (ev P a e s).bind fun x s1 => biop b fl x s1 := by simp only [ev]
theorem ev_isi (a : E) (t : Ty) : ev P (.isi a t) e s = (ev P a e s).bind fun x s1 => isiop s1 x t := by simp only [ev]
theorem ev_isx (a : E) (t : Option Nat) : ev P (.isx a t) e s = (ev P a e s).bind fun x s1 => bR (isiX P.sb s1 x t) s1 := by simp only [ev]
theorem ev_app (a x : E) : ev P (.app a x) e s = (ev P a e s).bind fun l s1 => rOr (asL s1 l) fun _ => (ev P x e s1).bind fun y s2 => appop l y s2 := by simp only [ev]
theorem ev_ins (a i x : E) : ev P (.ins a i x) e s = (ev P a e s).bind fun l s1 => rOr (asL s1 l) fun _ => (ev P i e s1).bind fun j s2 => (ev P x e s2).bind fun y s3 => insop l j y s3 := by simp only [ev]
theorem ev_frz (a : E) : ev P (.frz a) e s = (ev P a e s).bind fun x s1 => rOr (G.frz 8 x s1) fun q => .ok (.p q.1) q.2 := by simp only [ev]
theorem ev_fld (a : E) (f : Str) : ev P (.fld a f) e s = (ev P a e s).bind fun x s1 => fldop P.sb x f s1 := by simp only [ev]
theorem evs_nil : evs P .nil e s = .ok [] s := by simp only [evs]
theorem evs_cons (a : E) (es : Es) : evs P (.cons a es) e s = (ev P a e s).bind fun x s1 => (evs P es e s1).bind fun xs s2 => .ok (x :: xs) s2 := by simp only [evs]
theorem evo_no : evo P .no e s = .ok none s := by simp only [evo]
theorem evo_so (a : E) : evo P (.so a) e s = (ev P a e s).bind fun x s1 => rOr (dInt x) fun i => .ok (some i) s1 := by simp only [evo]
/-! operations -/
theorem dInt_i (i : Int) : dInt (.p (.int i)) = some i := rfl
theorem dBool_b (i : Bool) : dBool (.p (.bool i)) = some i := rfl
theorem b_add (fl : Bool) (i j : Int) : binop .add fl (.p (.int i)) (.p (.int j)) s = .ok (.p (.int (i + j))) s := rfl
theorem b_sub (fl : Bool) (i j : Int) : binop .sub fl (.p (.int i)) (.p (.int j)) s = .ok (.p (.int (i - j))) s := rfl
theorem b_mul (fl : Bool) {i j : Int} (h : CMul i j ∨ CMulW i j) : binop .mul fl (.p (.int i)) (.p (.int j)) s = .ok (.p (.int (i * j))) s := if_pos h
theorem b_fdiv (fl : Bool) {i j : Int} (h : 0 < j) (h2 : j < 1073741824 ∨ j.natAbs.log2 < 9000) : binop .fdiv fl (.p (.int i)) (.p (.int j)) s = .ok (.p (.int (i / j))) s := if_pos ⟨h, h2⟩
theorem b_mod (fl : Bool) {i j : Int} (h : 0 < j) : binop .mod fl (.p (.int i)) (.p (.int j)) s = .ok (.p (.int (i % j))) s := if_pos h
theorem b_pow (fl : Bool) {i j : Int} (h : 0 ≤ j ∧ (Builtin.Int.intBits i : Int) * j ≤ 2 ^ 27) : binop .pow fl (.p (.int i)) (.p (.int j)) s = .ok (.p (.int (i ^ j.toNat))) s := if_pos h
theorem b_pow18 (fl : Bool) : binop .pow fl (.p (.int 10)) (.p (.int 18)) s = .ok (.p (.int 1000000000000000000)) s := (b_pow fl (by decide)).trans (by rfl)
theorem b_pow9 (fl : Bool) : binop .pow fl (.p (.int 10)) (.p (.int 9)) s = .ok (.p (.int 1000000000)) s := (b_pow fl (by decide)).trans (by rfl)
theorem b_cat (fl : Bool) {x y : D} {xs ys : List D} (hx : asL s x = some xs) (hy : asL s y = some ys) : binop .add fl x y s = mkL fl (xs ++ ys) s := by
  have nx : dInt x = none := by
    cases x with
    | p d => cases d <;> first | rfl | cases hx
    | o n => rfl
    | s l => rfl
  unfold binop
  rw [nx, hx, hy]
theorem c_lt (i j : Int) : cmpop .lt (.p (.int i)) (.p (.int j)) s = .ok (.p (.bool (decide (i < j)))) s := rfl
theorem c_le (i j : Int) : cmpop .le (.p (.int i)) (.p (.int j)) s = .ok (.p (.bool (decide (i ≤ j)))) s := rfl
theorem c_gt (i j : Int) : cmpop .gt (.p (.int i)) (.p (.int j)) s = .ok (.p (.bool (decide (j < i)))) s := rfl
theorem c_ge (i j : Int) : cmpop .ge (.p (.int i)) (.p (.int j)) s = .ok (.p (.bool (decide (j ≤ i)))) s := rfl
theorem c_is (x : D) : cmpop .is_ x (.p .none) s = .ok (.p (.bool (isNone x))) s := by unfold cmpop; exact if_pos rfl
theorem c_isn (x : D) : cmpop .isn x (.p .none) s = .ok (.p (.bool (!isNone x))) s := by unfold cmpop; exact if_pos rfl
theorem i_ix {x v : D} {xs : List D} {i : Int} (hx : asSq s x = some xs) (hv : atI xs i = some v) : ixop x (.p (.int i)) s = .ok v s := by
  unfold ixop
  rw [dInt_i, hx]
  dsimp only
  rw [hv]
theorem l_len (fl : Bool) {x : D} {xs : List D} (hx : asSq s x = some xs) : biop .len fl x s = .ok (.p (.int (xs.length : Int))) s := by
  unfold biop
  rw [hx]
theorem cel_of {n : Nat} {x : Cell} (h : s[n]? = some (some x)) : cel s n = some x := by unfold cel; rw [h]
theorem asL_p (ds : List PyData) : asL s (.p (.list ds)) = some (ds.map .p) := rfl
theorem asL_o {n : Nat} {xs : List D} (h : s[n]? = some (some (.lst xs))) : asL s (.o n) = some xs := by
  show (match cel s n with | some (.lst xs) => some xs | _ => none) = _
  rw [cel_of h]
theorem asSq_o {n : Nat} {xs : List D} (h : s[n]? = some (some (.lst xs))) : asSq s (.o n) = some xs := by unfold asSq; rw [asL_o h]
theorem asSq_l (ds : List PyData) : asSq s (.p (.list ds)) = some (ds.map .p) := rfl
theorem s_set {n j : Nat} {y : D} {xs : List D} {i : Int} (h : s[n]? = some (some (.lst xs))) (hj : ixN xs.length i = some j) : setop (.o n) (.p (.int i)) y s = .ok () (s.set n (some (.lst (xs.set j y)))) := by
  unfold setop
  rw [dInt_i]
  dsimp only
  rw [cel_of h]
  dsimp only
  rw [hj]
/-! rows -/
theorem st_asg {tg : Tg} {a : E} {r : Ss} {d : D} (h : ev P a e s = .ok d s1) (hb : bindT tg (.one d) s1 e = some e1) : exs P (.cons (.asg tg a) r) e s = exs P r e1 s1 := by
  simp only [exs, exe, h, toS_ok, bindS, hb, RS.nxt_nx]
theorem st_seti {a i x : E} {r : Ss} {y l j : D} {s4 : Sto} (h1 : ev P x e s = .ok y s1) (h2 : ev P a e s1 = .ok l s2) (h3 : ev P i e s2 = .ok j s3) (h4 : setop l j y s3 = .ok () s4) : exs P (.cons (.seti a i x) r) e s = exs P r e s4 := by
  simp only [exs, exe, h1, h2, h3, h4, toS_ok, RS.nxt_nx]
theorem st_ex {a : E} {r : Ss} {d : D} (h : ev P a e s = .ok d s1) : exs P (.cons (.ex a) r) e s = exs P r e s1 := by
  simp only [exs, exe, h, toS_ok, RS.nxt_nx]
theorem st_ret {a : E} {r : Ss} {d : D} (h : ev P a e s = .ok d s1) : exs P (.cons (.ret a) r) e s = .rt d s1 := by
  simp only [exs, exe, h, toS_ok, RS.nxt_rt]
theorem st_if {t : E} {a b r : Ss} {q : Bool} (h : ev P t e s = .ok (.p (.bool q)) s1) : exs P (.cons (.ifs t a b) r) e s = (if q = true then exs P a e s1 else exs P b e s1).nxt fun e1 s1 => exs P r e1 s1 := by
  simp only [exs, exe, evc, h, R.bind_ok, dBool_b, rOr_some, toS_ok]
theorem st_ifT {t : E} {a b r : Ss} (h : ev P t e s = .ok (.p (.bool true)) s1) : exs P (.cons (.ifs t a b) r) e s = (exs P a e s1).nxt fun e1 s1 => exs P r e1 s1 := by
  rw [st_if h, if_pos rfl]
theorem st_ifF {t : E} {a b r : Ss} (h : ev P t e s = .ok (.p (.bool false)) s1) : exs P (.cons (.ifs t a b) r) e s = (exs P b e s1).nxt fun e1 s1 => exs P r e1 s1 := by
  rw [st_if h, if_neg Bool.false_ne_true]
theorem st_nil : exs P .nil e s = .nx e s := by simp only [exs]
end
/-- the numbers that a cell holds -/
def iD (l : List Int) : List D := l.map fun i => .p (.int i)
theorem iD_len (l : List Int) : (iD l).length = l.length := List.length_map ..
theorem iD_get {l : List Int} {i : Nat} (h : i < l.length) : (iD l)[i]? = some (.p (.int l[i])) := by
  unfold iD
  rw [List.getElem?_map, List.getElem?_eq_getElem h]
  rfl
theorem iD_set (l : List Int) (i : Nat) (z : Int) : (iD l).set i (.p (.int z)) = iD (l.set i z) := by unfold iD; rw [List.map_set]
theorem ixN_nat {n k : Nat} (h : k < n) : ixN n (k : Int) = some k := by
  unfold ixN
  rw [if_pos (by omega), if_pos (by omega)]
  simp
/-- the purse at p, its cells at c: there may be k more draws -/
structure Pu (s : Sto) (p c k : Nat) : Prop where
  ne : p ≠ c
  ex : ∃ (l : List Int) (t : Int), s[p]? = some (some (.lst [.o c, .p (.int t)])) ∧ s[c]? = some (some (.lst (iD l))) ∧ l ≠ [] ∧ l.length ≤ 63 ∧ 0 ≤ t ∧ t + (k : Int) ≤ 1000000000000
theorem Pu.le {s : Sto} {p c k j : Nat} (h : Pu s p c k) (hj : j ≤ k) : Pu s p c j := ⟨h.ne, let ⟨l, t, h1, h2, h3, h4, h5, h6⟩ := h.ex; ⟨l, t, h1, h2, h3, h4, h5, by omega⟩⟩
/-- all but p and c stays -/
def Kp (p c : Nat) (s s' : Sto) : Prop := s'.length = s.length ∧ ∀ n, n ≠ p → n ≠ c → s'[n]? = s[n]?
theorem Kp.refl {p c : Nat} (s : Sto) : Kp p c s s := ⟨rfl, fun _ _ _ => rfl⟩
theorem Kp.trans {p c : Nat} {s1 s2 s3 : Sto} (a : Kp p c s1 s2) (b : Kp p c s2 s3) : Kp p c s1 s3 := ⟨b.1.trans a.1, fun n h1 h2 => (b.2 n h1 h2).trans (a.2 n h1 h2)⟩
theorem Pu.lt {s : Sto} {p c k : Nat} (h : Pu s p c k) : p < s.length ∧ c < s.length := by
  obtain ⟨l, t, h1, h2, _⟩ := h.ex
  exact ⟨(List.getElem?_eq_some_iff.mp h1).1, (List.getElem?_eq_some_iff.mp h2).1⟩
theorem cut_kp {s s' : Sto} {p c k : Nat} (h : Pu s' p c k) (x : Kp p c s s') : cut s s' = some s' := by
  unfold cut
  obtain ⟨l, t, h1, h2, _⟩ := h.ex
  obtain ⟨l1, l2⟩ := h.lt
  rw [if_pos]
  · rw [← x.1, List.take_length]
  · intro n hn
    by_cases e1 : n = p
    · refine .inr fun y hy => ?_
      rw [e1, h1] at hy
      cases hy
      intro z hz
      rcases List.mem_cons.mp hz with rfl | hz
      · show c < s.length
        rw [← x.1]
        exact l2
      · rcases List.mem_cons.mp hz with rfl | hz
        · trivial
        · cases hz
    · by_cases e2 : n = c
      · refine .inr fun y hy => ?_
        rw [e2, h2] at hy
        cases hy
        intro z hz
        unfold iD at hz
        obtain ⟨i, _, rfl⟩ := List.mem_map.mp hz
        trivial
      · exact .inl (x.2 n e1 e2)
theorem small_mul {i j : Int} (h1 : 0 ≤ i) (h2 : i < 18446744073709551616) : CMul i j ∨ CMulW i j := .inl (.inl ⟨by omega, by omega⟩)
/-- a drawing def -/
def DrawF (Φ : List D → Sto → R D) : Prop := ∀ {s : Sto} {p c k : Nat} {m : Int}, Pu s p c (k + 1) → 0 < m → m ≤ 1000000000 → ∃ (r : Int) (s' : Sto), Φ [.o p, .p (.int m)] s = .ok (.p (.int r)) s' ∧ 0 ≤ r ∧ r < m ∧ Pu s' p c k ∧ Kp p c s s'
theorem finO_p {F : FnI} {d : PyData} {s s' s2 : Sto} (hp : F.pure = true) (h : cut s s' = some s2) : finO F (.p d) s s' = .ok (.p d) s2 := by
  unfold finO
  rw [if_pos hp]
  have : frz 8 (.p d) s' = some (d, s') := rfl
  rw [this]
  simp only [rOr_some, h]
end
end G

namespace G
open PySem PySem.Spec PyProof.Rows L2
open Classical
noncomputable section
/-! ### loops, cells that are new -/
theorem forL_inv {f : Item → Env → Sto → RS} {items : List Item} (I : Nat → Env → Sto → Prop) (hs : ∀ i x e s, items[i]? = some x → I i e s → ∃ e' s', f x e s = .nx e' s' ∧ I (i + 1) e' s') {e : Env} {s : Sto} (h0 : I 0 e s) : ∃ e' s', forL f items e s = .nx e' s' ∧ I items.length e' s' := by
  have gen : ∀ (n i : Nat) (e : Env) (s : Sto), items.length - i = n → i ≤ items.length → I i e s → ∃ e' s', forL f (items.drop i) e s = .nx e' s' ∧ I items.length e' s' := by
    intro n
    induction n with
    | zero =>
      intro i e s hn hi h
      have : i = items.length := by omega
      subst this
      rw [List.drop_length]
      exact ⟨e, s, rfl, h⟩
    | succ n ih =>
      intro i e s hn hi h
      have hlt : i < items.length := by omega
      rw [List.drop_eq_getElem_cons hlt]
      obtain ⟨e', s', h1, h2⟩ := hs i items[i] e s (List.getElem?_eq_getElem hlt) h
      simp only [forL, h1]
      exact ih (i + 1) e' s' (by omega) hlt h2
  have := gen items.length 0 e s rfl (Nat.zero_le _) h0
  rwa [List.drop_zero] at this
theorem st_for {P : Pg} {e e1 : Env} {s s1 s2 : Sto} {tg : Tg} {it : It} {b r : Ss} {items : List Item} (h : evi P it e s = .ok items s1) (hl : forL (fun x e1 s2 => bindS tg x s2 e1 fun e2 => exs P b e2 s2) items e s1 = .nx e1 s2) : exs P (.cons (.for_ tg it b) r) e s = exs P r e1 s2 := by
  simp only [exs, exe, h, toS_ok, hl, RS.nxt_nx]
/-- the first of s stand on in s', but for the purse's -/
def Ks (p c : Nat) (s s' : Sto) : Prop := s.length ≤ s'.length ∧ ∀ n, n < s.length → n ≠ p → n ≠ c → s'[n]? = s[n]?
theorem Kp.ks {p c : Nat} {s s' : Sto} (h : Kp p c s s') : Ks p c s s' := ⟨Nat.le_of_eq h.1.symm, fun n _ => h.2 n⟩
theorem Ks.refl {p c : Nat} (s : Sto) : Ks p c s s := ⟨Nat.le_refl _, fun _ _ _ _ => rfl⟩
theorem Ks.trans {p c : Nat} {s1 s2 s3 : Sto} (a : Ks p c s1 s2) (b : Ks p c s2 s3) : Ks p c s1 s3 := ⟨Nat.le_trans a.1 b.1, fun n h h1 h2 => (b.2 n (Nat.lt_of_lt_of_le h a.1) h1 h2).trans (a.2 n h h1 h2)⟩
theorem Ks.app {p c : Nat} (s : Sto) (x : Option Cell) : Ks p c s (s ++ [x]) := ⟨by simp, fun n h _ _ => List.getElem?_append_left h⟩
theorem Ks.set {p c n : Nat} {s s' : Sto} (h : Ks p c s s') (hn : s.length ≤ n) (x : Option Cell) : Ks p c s (s'.set n x) := ⟨by rw [List.length_set]; exact h.1, fun m hm h1 h2 => by rw [List.getElem?_set_ne (by omega)]; exact h.2 m hm h1 h2⟩
theorem Pu.app {s : Sto} {p c k : Nat} (h : Pu s p c k) (x : Option Cell) : Pu (s ++ [x]) p c k := by
  obtain ⟨l1, l2⟩ := h.lt
  obtain ⟨l, t, h1, h2, h3⟩ := h.ex
  exact ⟨h.ne, l, t, by rw [List.getElem?_append_left l1]; exact h1, by rw [List.getElem?_append_left l2]; exact h2, h3⟩
theorem Pu.set {s : Sto} {p c k n : Nat} (h : Pu s p c k) (h1 : n ≠ p) (h2 : n ≠ c) (x : Option Cell) : Pu (s.set n x) p c k := by
  obtain ⟨l, t, k1, k2, k3⟩ := h.ex
  exact ⟨h.ne, l, t, by rw [List.getElem?_set_ne h1]; exact k1, by rw [List.getElem?_set_ne h2]; exact k2, k3⟩
theorem cut_ks {s s' : Sto} {p c k : Nat} (hp : p < s.length) (hc : c < s.length) (h : Pu s' p c k) (x : Ks p c s s') : ∃ s2, cut s s' = some s2 ∧ Pu s2 p c k ∧ Kp p c s s2 := by
  obtain ⟨l, t, h1, h2, h3⟩ := h.ex
  refine ⟨s'.take s.length, ?_, ⟨h.ne, l, t, by rw [List.getElem?_take_of_lt hp]; exact h1, by rw [List.getElem?_take_of_lt hc]; exact h2, h3⟩, by rw [List.length_take]; have := x.1; omega, fun n n1 n2 => ?_⟩
  · unfold cut
    rw [if_pos]
    intro n hn
    by_cases e1 : n = p
    · refine .inr fun y hy => ?_
      rw [e1, h1] at hy
      cases hy
      intro z hz
      rcases List.mem_cons.mp hz with rfl | hz
      · exact hc
      · rcases List.mem_cons.mp hz with rfl | hz
        · trivial
        · cases hz
    · by_cases e2 : n = c
      · refine .inr fun y hy => ?_
        rw [e2, h2] at hy
        cases hy
        intro z hz
        unfold iD at hz
        obtain ⟨i, _, rfl⟩ := List.mem_map.mp hz
        trivial
      · exact .inl (x.2 n hn e1 e2)
  · by_cases hn : n < s.length
    · rw [List.getElem?_take_of_lt hn]
      exact x.2 n hn n1 n2
    · rw [List.getElem?_eq_none (by rw [List.length_take]; omega), List.getElem?_eq_none (by omega)]
/-! ### pick -/
theorem pD_get {ds : List PyData} {i : Nat} {d : PyData} (h : ds[i]? = some d) : (ds.map D.p)[i]? = some (.p d) := by rw [List.getElem?_map, h]; rfl
/-! ### mixed -/
theorem mkL_c (xs : List D) (s : Sto) (h : xs.length ≤ LIM) : mkL true xs s = .ok (.o s.length) (s ++ [some (.lst xs)]) := by
  unfold mkL
  rw [if_pos h]
end
end G

namespace G
open PySem PySem.Spec PyProof.Rows L2
open Classical
noncomputable section
/-! ### displays -/
theorem mkL_0 {s : Sto} : mkL false [] s = .ok (.p (.list [])) s := if_pos (show 0 ≤ 1000000 by decide)
theorem i_app {s : Sto} {n : Nat} {y : D} {xs : List D} (h : s[n]? = some (some (.lst xs))) (h1 : xs.length < LIM) : appop (.o n) y s = .ok (.p .none) (s.set n (some (.lst (xs ++ [y])))) := by
  unfold appop
  dsimp only
  rw [cel_of h]
  dsimp only
  rw [if_pos h1]
theorem r_rng {P : Pg} {e : Env} {s s1 : Sto} {a : E} {i : Int} (h : ev P a e s = .ok (.p (.int i)) s1) (h1 : i ≤ 1000000) (h2 : -1000000 ≤ i) : evi P (.rng a) e s = .ok ((List.range i.toNat).map fun (k : Nat) => Item.one (.p (.int (k : Int)))) s1 := by
  simp only [evi, h, R.bind_ok, dInt_i, rOr_some]
  exact if_pos ⟨h1, h2⟩
theorem rng_get {n i : Nat} {x : Item} (h : ((List.range n).map fun (k : Nat) => Item.one (.p (.int (k : Int))))[i]? = some x) : i < n ∧ x = .one (.p (.int (i : Int))) := by
  rw [List.getElem?_map] at h
  by_cases q : i < n
  · rw [List.getElem?_range q] at h
    cases h
    exact ⟨q, rfl⟩
  · rw [List.getElem?_eq_none (by rw [List.length_range]; omega)] at h
    cases h
/-! ### towns -/
def prP (x : Int × Int) : PyData := .tuple [.int x.1, .int x.2]
def townP (many : Int) (ls : List (Int × Int)) : PyData := .tuple [.int many, .list (ls.map prP)]
/-- a right town of at most b places -/
structure Tw (b : Int) (many : Int) (ls : List (Int × Int)) : Prop where
  m1 : 1 ≤ many
  m2 : many ≤ b
  l1 : 1 ≤ ls.length
  l2 : (ls.length : Int) ≤ 2 * b
  rd : ∀ x ∈ ls, 0 ≤ x.1 ∧ x.1 < many ∧ 0 ≤ x.2 ∧ x.2 < many
  pl : ∀ v : Int, 0 ≤ v → v < many → ∃ x ∈ ls, x.1 = v ∨ x.2 = v
end
end G

namespace G
open PySem PySem.Spec PyProof.Rows L2
open Classical
noncomputable section
/-! ### loops that end at the first bad turn; blocks without an effect -/
theorem lcL_filt {α : Type} {f : Item → Sto → R (Option D)} {s : Sto} (it : α → Item) (q : α → Bool) (o : α → D) : ∀ {l : List α}, (∀ x ∈ l, f (it x) s = .ok (if q x = true then some (o x) else none) s) → lcL f (l.map it) s = .ok ((l.filter q).map o) s
  | [], _ => rfl
  | x :: xs, h => by
    simp only [List.map_cons, lcL, h x List.mem_cons_self, G.R.bind_ok, lcL_filt it q o fun y hy => h y (List.mem_cons_of_mem _ hy)]
    by_cases z : q x = true
    · rw [if_pos z, List.filter_cons_of_pos z]; rfl
    · rw [if_neg z, List.filter_cons_of_neg z]
theorem mkL_p (ds : List PyData) (s : Sto) (h : ds.length ≤ 1000000) : mkL false (ds.map D.p) s = .ok (.p (.list ds)) s := by
  unfold mkL
  rw [if_pos (by rw [List.length_map]; exact h)]
  have : allP (ds.map D.p) = some ds := by
    clear h
    induction ds with
    | nil => rfl
    | cons d ds ih =>
      unfold allP at ih ⊢
      simp only [List.map_cons, mapO, pOf, ih]
  rw [this]
theorem cut_self (s : Sto) : cut s s = some s := by
  unfold cut
  rw [if_pos (fun n _ => .inl rfl), List.take_length]
/-- a def that only tells -/
theorem run_pure {P : Pg} {n N : Nat} {b : Ss} {args : List D} {s : Sto} {d : PyData} (h : exs P b (args.map some ++ List.replicate (N - args.length) none) s = .rt (.p d) s) : runB P ⟨n, N, b, true⟩ args s = .ok (.p d) s := by
  unfold runB
  show (match exs P b (args.map some ++ List.replicate (N - args.length) none) s with
    | .nx _ s' => finO _ (.p .none) s s'
    | .rt d s' => finO _ d s s'
    | .exc x _ s' => finX x s s'
    | _ => .bad) = _
  rw [h]
  exact finO_p rfl (cut_self s)
theorem run_exc {P : Pg} {n N : Nat} {b : Ss} {args : List D} {s : Sto} {e : Env} {x : Xn} (h : exs P b (args.map some ++ List.replicate (N - args.length) none) s = .exc x e s) (hx : plP x.pl = true) : runB P ⟨n, N, b, true⟩ args s = .exc x s := by
  unfold runB
  show (match exs P b (args.map some ++ List.replicate (N - args.length) none) s with
    | .nx _ s' => finO _ (.p .none) s s'
    | .rt d s' => finO _ d s s'
    | .exc x _ s' => finX x s s'
    | _ => .bad) = _
  rw [h]
  show finX x s s = _
  unfold finX
  rw [if_pos hx, cut_self]
  rfl
/-! ### kinds of things -/
def noD : PyData → Bool
  | .dict _ => false
  | _ => true
/-! ### is_whole, is_pair -/
theorem sEq_p {s : Sto} {a b : PyData} (ha : SeqAt.shaped a = true) (hb : SeqAt.shaped b = true) : sEq (.p a) (.p b) s = some (PyData.eqv a b) := by
  have gen : sEr (.p a) (.p b) s = some (PyData.eqv a b) := by
    unfold sEr
    rw [res_p, res_p]
    dsimp only
    rw [if_pos ⟨ha, hb⟩]
  unfold sEq
  cases a with
  | str x =>
    cases b with
    | str y =>
      show some (decide (x = y)) = some (PyData.eqv (.str x) (.str y))
      simp only [PyData.eqv]
      by_cases h : x = y
      · subst h; simp
      · rw [decide_eq_false h]; simp [h]
    | _ => exact gen
  | _ => exact gen
theorem eq_p {s : Sto} {a b : PyData} (ha : SeqAt.shaped a = true) (hb : SeqAt.shaped b = true) : cmpop .eq (.p a) (.p b) s = .ok (.p (.bool (PyData.eqv a b))) s := by
  unfold cmpop
  dsimp only
  rw [sEq_p ha hb]
  rfl
theorem ne_p {s : Sto} {a b : PyData} (ha : SeqAt.shaped a = true) (hb : SeqAt.shaped b = true) : cmpop .ne (.p a) (.p b) s = .ok (.p (.bool (!PyData.eqv a b))) s := by
  unfold cmpop
  dsimp only
  rw [sEq_p ha hb]
  rfl
theorem shaped_int (i : Int) : SeqAt.shaped (.int i) = true := by simp [SeqAt.shaped, PyData.canLay0, PyData.depth]
theorem eq_int {s : Sto} {i j : Int} : cmpop .eq (.p (.int i)) (.p (.int j)) s = .ok (.p (.bool (i == j))) s := by
  rw [eq_p (shaped_int i) (shaped_int j)]
  simp only [PyData.eqv]
theorem it_lst {P : Pg} {e : Env} {s s1 : Sto} {a : E} {l : List PyData} (h : ev P a e s = .ok (.p (.list l)) s1) : evi P (.seq a) e s = .ok (l.map fun d => .one (.p d)) s1 := by
  simp only [evi, h, G.R.bind_ok]
theorem noX_of {α : Type} (r : R α) (x : α) (s : Sto) (h : r = .ok x s) : noX r = .ok x s := by rw [h]; rfl
end
end G

namespace G
open PySem PySem.Spec PyProof.Rows L2
open Classical
noncomputable section
/-! ### places, ends -/
def atL (ls : List (Int × Int)) (r sd : Nat) : Int := if sd = 0 then (ls.getD r (0, 0)).1 else (ls.getD r (0, 0)).2
def enP (x : Nat × Nat) : PyData := .tuple [.int x.1, .int x.2]
def allE (n : Nat) : List (Nat × Nat) := (List.range n).flatMap fun r => [(r, 0), (r, 1)]
/-! ends at a place -/
def ends (ls : List (Int × Int)) (v : Int) : List (Nat × Nat) := (allE ls.length).filter fun x => atL ls x.1 x.2 == v
end
end G

namespace G
open PySem PySem.Spec PyProof.Rows L2
open Classical
noncomputable section
/-! ### the law's own ends -/
theorem b_catp {s : Sto} (xs ys : List PyData) (h : xs.length + ys.length ≤ 1000000) : binop .add false (.p (.list xs)) (.p (.list ys)) s = .ok (.p (.list (xs ++ ys))) s := by
  rw [b_cat false (asL_p xs) (asL_p ys), ← List.map_append, mkL_p _ _ (by rw [List.length_append]; exact h)]
end
end G

namespace G
open PySem PySem.Spec PyProof.Rows L2
open Classical
noncomputable section
/-! ### what a town is asked -/
def roadOk (many : Int) : PyData → Bool
  | .tuple [.int a, .int b] => decide (0 ≤ a ∧ a < many ∧ 0 ≤ b ∧ b < many)
  | _ => false
def unP : PyData → Int × Int
  | .tuple [.int a, .int b] => (a, b)
  | _ => (0, 0)
def t1 (x : Str) : PyData := .tuple [.str x]
def t2 (x : Str) (i : Nat) : PyData := .tuple [.str x, .int (i : Int)]
def twR (many : Int) (rs : List PyData) : PyData := match (List.range rs.length).find? (fun i => !roadOk many (rs.getD i .none)) with
  | some i => t2 "road" i
  | none => match (List.range many.toNat).find? (fun (v : Nat) => (ends (rs.map unP) (v : Int)).isEmpty) with
    | some v => t2 "bare" v
    | none => .none
def twB (many : Int) : PyData → PyData
  | .list rs => if 1 ≤ rs.length ∧ rs.length ≤ 16 then twR many rs else t1 "roads"
  | _ => t1 "roads"
def twA (a b : PyData) : PyData := match a with
  | .int many => if 1 ≤ many ∧ many ≤ 8 then twB many b else t1 "places"
  | _ => t1 "places"
def twrong : PyData → PyData
  | .tuple [a, b] => twA a b
  | _ => t1 "town"
/-- things that are looked at: no dicts, not too long -/
def fi : Nat → PyData → Bool
  | _, .none => true
  | _, .bool _ => true
  | _, .int _ => true
  | _, .str x => PyData.canLay0 (.str x) && decide (x.length ≤ 100)
  | k + 1, .list xs => decide (xs.length ≤ 400) && xs.all (fi k)
  | k + 1, .tuple xs => decide (xs.length ≤ 400) && xs.all (fi k)
  | _, _ => false
theorem eqv_nil (l : List PyData) : PyData.eqv (.list l) (.list []) = l.isEmpty := by cases l <;> rfl
theorem nil_shaped : SeqAt.shaped (.list []) = true := by decide
end
end G

namespace G
open PySem PySem.Spec PyProof.Rows L2
open Classical
noncomputable section
/-! ### the law's own look at a town -/
end
end G

namespace G
open PySem PySem.Spec PyProof.Rows L2
open Classical
noncomputable section
/-! ### refusing -/
theorem st_raiseV {P : Pg} {e : Env} {s s1 : Sto} {k f : Nat} {a : E} {r : Ss} {d : D} (h : ev P a e s = .ok d s1) : exs P (.cons (.raiseV k f a) r) e s = .exc ⟨k, some d⟩ e s1 := by
  simp only [exs, exe, h, toS_ok]
  rfl
theorem st_exX {P : Pg} {e : Env} {s s1 : Sto} {a : E} {r : Ss} {x : Xn} (h : ev P a e s = .exc x s1) : exs P (.cons (.ex a) r) e s = .exc x e s1 := by
  simp only [exs, exe, h]
  rfl
theorem nxt_exc (x : Xn) (e : Env) (s : Sto) (f : Env → Sto → RS) : (RS.exc x e s).nxt f = .exc x e s := rfl
theorem st_try {P : Pg} {e e1 : Env} {s s1 : Sto} {b r : Ss} {k x i : Nat} {y : Xn} (h : exs P b e s = .exc y e1 s1) (hs : P.sb y.c k = some true) (hx : x < e1.length) :
    exs P (.cons (.tryC b k x i) r) e s = exs P r (((e1.set x (some (.o s1.length))).set i (some (.o s1.length))).set x none) (s1 ++ [some (.exn y.c y.pl)]) := by
  simp only [exs, exe, h, hs, if_pos hx, RS.nxt_nx]
/-- the classes: 0 the refusals' own, m NoPlace, t NoTown -/
structure Sb (P : Pg) (m t : Nat) : Prop where
  m0 : P.sb m 0 = some true
  t0 : P.sb t 0 = some true
  mm : P.sb m m = some true
  tt : P.sb t t = some true
  mt : P.sb m t = some false
  tm : P.sb t m = some false
def plOk (many : Int) : PyData → Bool
  | .int v => decide (0 ≤ v ∧ v < many)
  | _ => false
/-! right towns are looked at as right -/
/-! ### ends_at -/
structure EndsAtF (m t : Nat) (Φ : List D → Sto → R D) : Prop where
  good : ∀ {s : Sto} {many v : Int} {ls : List (Int × Int)}, Tw 8 many ls → 0 ≤ v → v < many → Φ [.p (townP many ls), .p (.int v)] s = .ok (.p (.list ((ends ls v).map enP))) s
  place : ∀ {s : Sto} {many : Int} {ls : List (Int × Int)} {q : PyData}, Tw 8 many ls → noD q = true → plOk many q = false → Φ [.p (townP many ls), .p q] s = .exc ⟨m, none⟩ s
  town : ∀ {s : Sto} {x q : PyData}, fi 4 x = true → twrong x ≠ .none → Φ [.p x, .p q] s = .exc ⟨t, some (.p (twrong x))⟩ s
/-! ### _law_refused -/
structure RefF (Φ : List D → Sto → R D) : Prop where
  place : ∀ {s : Sto} {many : Int} {ls : List (Int × Int)} {q : PyData}, Tw 8 many ls → noD q = true → plOk many q = false → Φ [.p (townP many ls), .p q] s = .ok (.p (.list [.bool true, .bool true])) s
  town : ∀ {s : Sto} {x q : PyData}, fi 4 x = true → twrong x ≠ .none → Φ [.p x, .p q] s = .ok (.p (.list [.str "town", twrong x])) s
theorem cut_app (s t : Sto) : cut s (s ++ t) = some s := by
  unfold cut
  rw [if_pos (fun n hn => .inl (List.getElem?_append_left hn)), List.take_left]
theorem run_app {P : Pg} {n N : Nat} {b : Ss} {args : List D} {s t : Sto} {d : PyData} (h : exs P b (args.map some ++ List.replicate (N - args.length) none) s = .rt (.p d) (s ++ t)) : runB P ⟨n, N, b, true⟩ args s = .ok (.p d) s := by
  unfold runB
  show (match exs P b (args.map some ++ List.replicate (N - args.length) none) s with
    | .nx _ s' => finO _ (.p .none) s s'
    | .rt d s' => finO _ d s s'
    | .exc x _ s' => finX x s s'
    | _ => .bad) = _
  rw [h]
  exact finO_p rfl (cut_app s t)
theorem get_app (s : Sto) (x : Option Cell) : (s ++ [x])[s.length]? = some x := by
  rw [List.getElem?_append_right (Nat.le_refl _), Nat.sub_self]
  rfl
theorem fld_wr {sb : Nat → Nat → Option Bool} {s : Sto} {n c : Nat} {d : D} (h : s[n]? = some (some (.exn c (some d)))) (hs : (sb c c).isSome = true) : fldop sb (.o n) "wrong" s = .ok d s := by
  unfold fldop
  dsimp only
  rw [cel_of h]
  dsimp only
  rw [if_pos ⟨rfl, hs⟩]
end
end G

namespace G
open PySem PySem.Spec PyProof.Rows L2
open Classical
noncomputable section
/-! ### the purse -/
def bPurse : Ss := (.cons (.asg (.nm 1) (.sl true (.v 0) .no (.so (.k (.int 63))))) (.cons (.for_ (.nm 2) (.rng (.bi .len false (.v 1))) (.cons (.ifs (.cmp .ge (.bi .abs false (.ix (.v 1) (.v 2))) (.bin .pow false (.k (.int 10)) (.k (.int 18)))) (.cons (.seti (.v 1) (.v 2) (.bin .mod false (.ix (.v 1) (.v 2)) (.bin .pow false (.bin .pow false (.k (.int 10)) (.k (.int 60))) (.k (.int 20))))) .nil) .nil) .nil)) (.cons (.ifs (.cmp .eq (.v 1) (.lst false .nil)) (.cons (.asg (.nm 1) (.lst true (.cons (.k (.int 0)) .nil))) .nil) .nil) (.cons (.ret (.lst false (.cons (.v 1) (.cons (.k (.int 0)) .nil)))) .nil))))
def PurseF (Φ : List D → Sto → R D) : Prop := ∀ ns : List Int, ns.length ≤ 63 → ∃ (p c : Nat) (s' : Sto), Φ [.s (ns.map PyData.int)] [] = .ok (.o p) s' ∧ Pu s' p c 1000000000
theorem cut63 {xs : List D} (h : xs.length ≤ 63) : cutD xs none (some 63) = xs := by
  unfold cutD
  have e1 : HT.sIx xs.length 0 none = 0 := by simp [HT.sIx]
  have e2 : HT.sIx xs.length xs.length (some 63) = xs.length := by
    simp [HT.sIx]
    omega
  rw [e1, e2, List.drop_zero, Nat.sub_zero, List.take_length]
theorem l_abs {fl : Bool} {s : Sto} (i : Int) : biop .abs fl (.p (.int i)) s = .ok (.p (.int (if i < 0 then -i else i))) s := rfl
theorem mapO_ints {f : D → Option PyData} (hf : ∀ i : Int, f (.p (.int i)) = some (.int i)) : ∀ l : List Int, mapO f (iD l) = some (l.map PyData.int)
  | [] => rfl
  | i :: l => by
    have ih := mapO_ints hf l
    unfold iD at ih ⊢
    simp only [List.map_cons, mapO, hf, ih]
theorem ints_shaped (l : List Int) : SeqAt.shaped (.list (l.map PyData.int)) = true := by
  have : PyData.canLayAll0 (l.map PyData.int) = true ∧ PyData.depthAll (l.map PyData.int) = 0 := by
    induction l with
    | nil => exact ⟨rfl, rfl⟩
    | cons i l ih =>
      refine ⟨?_, ?_⟩
      · show (PyData.canLay0 (.int i) && PyData.canLayAll0 (l.map PyData.int)) = true
        rw [ih.1]; rfl
      · show max 0 (PyData.depthAll (l.map PyData.int)) = 0
        rw [ih.2]; rfl
  show (PyData.canLayAll0 (l.map PyData.int) && decide (PyData.depthAll (l.map PyData.int) + 1 ≤ 64)) = true
  rw [this.1, this.2]
  rfl
theorem eq_cells {s : Sto} {n : Nat} {l : List Int} (h : s[n]? = some (some (.lst (iD l)))) : cmpop .eq (.o n) (.p (.list [])) s = .ok (.p (.bool l.isEmpty)) s := by
  have e : res 8 s (.o n) = some (.list (l.map PyData.int)) := by
    unfold res
    rw [cel_of h]
    simp only [mapO_ints (fun i => res_p 7 s (.int i)) l, Option.map_some]
  unfold cmpop sEq sEs sEr
  dsimp only
  rw [e, res_p]
  dsimp only
  rw [if_pos ⟨ints_shaped l, nil_shaped⟩, eqv_nil, List.isEmpty_map]
  rfl
theorem purse_run (P : Pg) : PurseF (fun args s => runB P ⟨1, 3, bPurse, false⟩ args s) := by
  intro ns hn
  have lim : LIM = 1000000 := rfl
  have hl : (ns.map PyData.int).map D.p = iD ns := by
    unfold iD
    rw [List.map_map]
    rfl
  have e0 : slop true (.s (ns.map PyData.int)) none (some 63) [] = .ok (.o 0) [some (.lst (iD ns))] := by
    show mkL true (cutD ((ns.map PyData.int).map D.p) none (some 63)) [] = _
    rw [hl, cut63 (by rw [iD_len]; exact hn), mkL_c _ _ (by rw [iD_len]; omega)]
    rfl
  let F : Item → Env → Sto → RS := fun x e1 s2 => bindS (.nm 2) x s2 e1 fun e2 => exs P (.cons (.ifs (.cmp .ge (.bi .abs false (.ix (.v 1) (.v 2))) (.bin .pow false (.k (.int 10)) (.k (.int 18)))) (.cons (.seti (.v 1) (.v 2) (.bin .mod false (.ix (.v 1) (.v 2)) (.bin .pow false (.bin .pow false (.k (.int 10)) (.k (.int 60))) (.k (.int 20))))) .nil) .nil) .nil) e2 s2
  let I : Nat → Env → Sto → Prop := fun i e s2 => (∃ z, e = [some (.s (ns.map PyData.int)), some (.o 0), z]) ∧ ∃ l : List Int, l.length = ns.length ∧ s2 = [some (.lst (iD l))]
  have step : ∀ (i : Nat) (x : Item) (e : Env) (s2 : Sto), ((List.range ns.length).map fun (k : Nat) => Item.one (.p (.int (k : Int))))[i]? = some x → I i e s2 → ∃ e' s', F x e s2 = .nx e' s' ∧ I (i + 1) e' s' := by
    rintro i x e s2 hx ⟨⟨z, rfl⟩, l, hll, rfl⟩
    obtain ⟨hi, rfl⟩ := rng_get hx
    have hil : i < l.length := by omega
    have c0 : ([some (.lst (iD l))] : Sto)[0]? = some (some (.lst (iD l))) := rfl
    have g := i_ix (s := [some (.lst (iD l))]) (asSq_o c0) (atI_nat (iD_get hil))
    by_cases q : (1000000000000000000 : Int) ≤ (if l[i] < 0 then -l[i] else l[i])
    · refine ⟨[some (.s (ns.map PyData.int)), some (.o 0), some (.p (.int (i : Int)))], [some (.lst (iD (l.set i (l[i] % (10 ^ Int.toNat 60) ^ Int.toNat 20))))], ?_, ⟨_, rfl⟩, _, by rw [List.length_set]; exact hll, rfl⟩
      show exs P _ [some (.s (ns.map PyData.int)), some (.o 0), some (.p (.int (i : Int)))] [some (.lst (iD l))] = _
      rw [st_ifT (by simp only [ev_v, ev_k, ev_g, ev_tup, ev_lst, ev_bin, ev_neg, ev_nt, ev_cmp, ev_chn, ev_an, ev_orr, ev_ife, ev_ix, ev_sl, ev_rev, ev_call, ev_bi, ev_isi, ev_isx, ev_app, ev_ins, ev_frz, ev_fld, evs_nil, evs_cons, evo_no, evo_so, G.R.bind_ok, rOr_some, vr_s, dInt_i, dBool_b, b_add, b_sub, b_pow18, b_pow9, c_lt, c_le, c_gt, c_ge, c_is, c_isn, List.getElem?_cons_succ, List.getElem?_cons_zero, List.set_cons_succ, List.set_cons_zero, brR_t, brR_f, g, l_abs, decide_eq_true q] <;> rfl)]
      rw [st_seti (by simp only [ev_v, ev_k, ev_g, ev_tup, ev_lst, ev_bin, ev_neg, ev_nt, ev_cmp, ev_chn, ev_an, ev_orr, ev_ife, ev_ix, ev_sl, ev_rev, ev_call, ev_bi, ev_isi, ev_isx, ev_app, ev_ins, ev_frz, ev_fld, evs_nil, evs_cons, evo_no, evo_so, G.R.bind_ok, rOr_some, vr_s, dInt_i, dBool_b, b_add, b_sub, b_pow18, b_pow9, c_lt, c_le, c_gt, c_ge, c_is, c_isn, List.getElem?_cons_succ, List.getElem?_cons_zero, List.set_cons_succ, List.set_cons_zero, brR_t, brR_f, g, b_pow false (i := 10) (j := 60) (by decide +kernel), b_pow false (i := 10 ^ Int.toNat 60) (j := 20) (by decide +kernel), b_mod false (i := l[i]) (j := (10 ^ Int.toNat 60) ^ Int.toNat 20) (by decide +kernel)] <;> rfl) (by simp only [ev_v, ev_k, ev_g, ev_tup, ev_lst, ev_bin, ev_neg, ev_nt, ev_cmp, ev_chn, ev_an, ev_orr, ev_ife, ev_ix, ev_sl, ev_rev, ev_call, ev_bi, ev_isi, ev_isx, ev_app, ev_ins, ev_frz, ev_fld, evs_nil, evs_cons, evo_no, evo_so, G.R.bind_ok, rOr_some, vr_s, dInt_i, dBool_b, b_add, b_sub, b_pow18, b_pow9, c_lt, c_le, c_gt, c_ge, c_is, c_isn, List.getElem?_cons_succ, List.getElem?_cons_zero, List.set_cons_succ, List.set_cons_zero, brR_t, brR_f] <;> rfl) (by simp only [ev_v, ev_k, ev_g, ev_tup, ev_lst, ev_bin, ev_neg, ev_nt, ev_cmp, ev_chn, ev_an, ev_orr, ev_ife, ev_ix, ev_sl, ev_rev, ev_call, ev_bi, ev_isi, ev_isx, ev_app, ev_ins, ev_frz, ev_fld, evs_nil, evs_cons, evo_no, evo_so, G.R.bind_ok, rOr_some, vr_s, dInt_i, dBool_b, b_add, b_sub, b_pow18, b_pow9, c_lt, c_le, c_gt, c_ge, c_is, c_isn, List.getElem?_cons_succ, List.getElem?_cons_zero, List.set_cons_succ, List.set_cons_zero, brR_t, brR_f] <;> rfl) (s_set c0 (ixN_nat (by rw [iD_len]; exact hil))), st_nil, RS.nxt_nx, st_nil, iD_set]
      rfl
    · refine ⟨[some (.s (ns.map PyData.int)), some (.o 0), some (.p (.int (i : Int)))], [some (.lst (iD l))], ?_, ⟨_, rfl⟩, l, hll, rfl⟩
      show exs P _ [some (.s (ns.map PyData.int)), some (.o 0), some (.p (.int (i : Int)))] [some (.lst (iD l))] = _
      rw [st_ifF (by simp only [ev_v, ev_k, ev_g, ev_tup, ev_lst, ev_bin, ev_neg, ev_nt, ev_cmp, ev_chn, ev_an, ev_orr, ev_ife, ev_ix, ev_sl, ev_rev, ev_call, ev_bi, ev_isi, ev_isx, ev_app, ev_ins, ev_frz, ev_fld, evs_nil, evs_cons, evo_no, evo_so, G.R.bind_ok, rOr_some, vr_s, dInt_i, dBool_b, b_add, b_sub, b_pow18, b_pow9, c_lt, c_le, c_gt, c_ge, c_is, c_isn, List.getElem?_cons_succ, List.getElem?_cons_zero, List.set_cons_succ, List.set_cons_zero, brR_t, brR_f, g, l_abs, decide_eq_false q] <;> rfl), st_nil, RS.nxt_nx, st_nil]
  obtain ⟨e', s', hf, ⟨z, rfl⟩, l, hll, rfl⟩ := forL_inv (f := F) I step (e := [some (.s (ns.map PyData.int)), some (.o 0), none]) (s := [some (.lst (iD ns))]) ⟨⟨_, rfl⟩, ns, rfl, rfl⟩
  have c0 : ([some (.lst (iD l))] : Sto)[0]? = some (some (.lst (iD l))) := rfl
  have c00 : ([some (.lst (iD ns))] : Sto)[0]? = some (some (.lst (iD ns))) := rfl
  have hev : evi P (.rng (.bi .len false (.v 1))) [some (.s (ns.map PyData.int)), some (.o 0), none] [some (.lst (iD ns))] = .ok ((List.range ns.length).map fun (k : Nat) => Item.one (.p (.int (k : Int)))) [some (.lst (iD ns))] := by
    have := r_rng (P := P) (e := [some (.s (ns.map PyData.int)), some (.o 0), none]) (s := [some (.lst (iD ns))]) (s1 := [some (.lst (iD ns))]) (a := .bi .len false (.v 1)) (i := (ns.length : Int)) (by simp only [ev_v, ev_k, ev_g, ev_tup, ev_lst, ev_bin, ev_neg, ev_nt, ev_cmp, ev_chn, ev_an, ev_orr, ev_ife, ev_ix, ev_sl, ev_rev, ev_call, ev_bi, ev_isi, ev_isx, ev_app, ev_ins, ev_frz, ev_fld, evs_nil, evs_cons, evo_no, evo_so, G.R.bind_ok, rOr_some, vr_s, dInt_i, dBool_b, b_add, b_sub, b_pow18, b_pow9, c_lt, c_le, c_gt, c_ge, c_is, c_isn, List.getElem?_cons_succ, List.getElem?_cons_zero, List.set_cons_succ, List.set_cons_zero, brR_t, brR_f, l_len false (asSq_o c00), iD_len]) (by omega) (by omega)
    rw [this]
    simp
  have raw : ∀ {n k : Nat} {s2 : Sto} {l : List Int}, exs P bPurse [some (.s (ns.map PyData.int)), none, none] [] = .rt (.o n) s2 → s2[n]? = some (some (.lst [.o k, .p (.int 0)])) → n ≠ k → s2[k]? = some (some (.lst (iD l))) → runB P ⟨1, 3, bPurse, false⟩ [.s (ns.map PyData.int)] [] = .ok (.o 1) [some (.lst (iD l)), some (.lst [.o 0, .p (.int 0)])] := fun {n k s2 l} h h1 nk h2 => by
    unfold runB
    have h' : exs P bPurse (([.s (ns.map PyData.int)] : List D).map some ++ List.replicate (3 - ([.s (ns.map PyData.int)] : List D).length) none) [] = .rt (.o n) s2 := h
    show (match exs P bPurse _ [] with
      | .nx _ s' => finO _ (.p .none) _ s'
      | .rt d s' => finO _ d _ s'
      | .exc x _ s' => finX x _ s'
      | _ => .bad) = _
    rw [h']
    show finO _ (.o n) [] s2 = _
    unfold finO
    rw [if_neg Bool.false_ne_true, if_neg (by exact Bool.false_ne_true)]
    have e1 : cut [] s2 = some [] := by
      unfold cut
      rw [if_pos (fun n hn => (by cases hn))]
      rfl
    have e2 : ∀ (l : List Int) (s a : Sto), ownL (own 0 6) (iD l) s a = some (iD l, s, a) := fun l s a => by
      induction l with
      | nil => rfl
      | cons i l ih =>
        unfold iD at ih ⊢
        simp only [List.map_cons, ownL, own, ih]
    have e3 : own 0 7 (.o k) (s2.set n none) [] = some (.o 0, (s2.set n none).set k none, [some (.lst (iD l))]) := by
      unfold own
      rw [if_neg (by omega), cel_of (x := .lst (iD l)) (by rw [List.getElem?_set_ne nk]; exact h2)]
      dsimp only
      rw [e2]
      rfl
    have e4 : own 0 8 (.o n) s2 [] = some (.o 1, (s2.set n none).set k none, [some (.lst (iD l)), some (.lst [.o 0, .p (.int 0)])]) := by
      unfold own
      rw [if_neg (by omega), cel_of h1]
      dsimp only
      simp only [ownL, e3]
      rfl
    rw [e1]
    simp only [rOr_some, List.length_nil]
    rw [e4]
    rfl
  cases hz : l.isEmpty with
  | true =>
    have lz : l = [] := List.isEmpty_iff.mp hz
    refine ⟨1, 0, [some (.lst (iD [0])), some (.lst [.o 0, .p (.int 0)])], raw (n := 2) (k := 1) (s2 := [some (.lst (iD l)), some (.lst (iD [0])), some (.lst [.o 1, .p (.int 0)])]) ?_ rfl (by decide) rfl, by decide, [0], 0, rfl, rfl, by simp, by simp, by omega, by omega⟩
    unfold bPurse
    rw [st_asg (by simp only [ev_v, ev_k, ev_g, ev_tup, ev_lst, ev_bin, ev_neg, ev_nt, ev_cmp, ev_chn, ev_an, ev_orr, ev_ife, ev_ix, ev_sl, ev_rev, ev_call, ev_bi, ev_isi, ev_isx, ev_app, ev_ins, ev_frz, ev_fld, evs_nil, evs_cons, evo_no, evo_so, G.R.bind_ok, rOr_some, vr_s, dInt_i, dBool_b, b_add, b_sub, b_pow18, b_pow9, c_lt, c_le, c_gt, c_ge, c_is, c_isn, List.getElem?_cons_succ, List.getElem?_cons_zero, List.set_cons_succ, List.set_cons_zero, brR_t, brR_f, e0] <;> rfl) rfl]
    simp only [List.set_cons_succ, List.set_cons_zero]
    rw [st_for hev hf]
    rw [st_ifT (by simp only [ev_v, ev_k, ev_g, ev_tup, ev_lst, ev_bin, ev_neg, ev_nt, ev_cmp, ev_chn, ev_an, ev_orr, ev_ife, ev_ix, ev_sl, ev_rev, ev_call, ev_bi, ev_isi, ev_isx, ev_app, ev_ins, ev_frz, ev_fld, evs_nil, evs_cons, evo_no, evo_so, G.R.bind_ok, rOr_some, vr_s, dInt_i, dBool_b, b_add, b_sub, b_pow18, b_pow9, c_lt, c_le, c_gt, c_ge, c_is, c_isn, List.getElem?_cons_succ, List.getElem?_cons_zero, List.set_cons_succ, List.set_cons_zero, brR_t, brR_f, mkL_0, eq_cells c0, hz] <;> rfl), st_asg (by simp only [ev_v, ev_k, ev_g, ev_tup, ev_lst, ev_bin, ev_neg, ev_nt, ev_cmp, ev_chn, ev_an, ev_orr, ev_ife, ev_ix, ev_sl, ev_rev, ev_call, ev_bi, ev_isi, ev_isx, ev_app, ev_ins, ev_frz, ev_fld, evs_nil, evs_cons, evo_no, evo_so, G.R.bind_ok, rOr_some, vr_s, dInt_i, dBool_b, b_add, b_sub, b_pow18, b_pow9, c_lt, c_le, c_gt, c_ge, c_is, c_isn, List.getElem?_cons_succ, List.getElem?_cons_zero, List.set_cons_succ, List.set_cons_zero, brR_t, brR_f, mkL_c [.p (.int 0)] [some (.lst (iD l))] (by show 1 ≤ 1000000; decide)] <;> rfl) rfl, st_nil, RS.nxt_nx]
    simp only [List.set_cons_succ, List.set_cons_zero]
    rw [st_ret (by simp only [ev_v, ev_k, ev_g, ev_tup, ev_lst, ev_bin, ev_neg, ev_nt, ev_cmp, ev_chn, ev_an, ev_orr, ev_ife, ev_ix, ev_sl, ev_rev, ev_call, ev_bi, ev_isi, ev_isx, ev_app, ev_ins, ev_frz, ev_fld, evs_nil, evs_cons, evo_no, evo_so, G.R.bind_ok, rOr_some, vr_s, dInt_i, dBool_b, b_add, b_sub, b_pow18, b_pow9, c_lt, c_le, c_gt, c_ge, c_is, c_isn, List.getElem?_cons_succ, List.getElem?_cons_zero, List.set_cons_succ, List.set_cons_zero, brR_t, brR_f] <;> rfl)]
    rfl
  | false =>
    refine ⟨1, 0, [some (.lst (iD l)), some (.lst [.o 0, .p (.int 0)])], raw (n := 1) (k := 0) (s2 := [some (.lst (iD l)), some (.lst [.o 0, .p (.int 0)])]) ?_ rfl (by decide) rfl, by decide, l, 0, rfl, rfl, (by intro q; rw [q] at hz; cases hz), by omega, by omega, by omega⟩
    unfold bPurse
    rw [st_asg (by simp only [ev_v, ev_k, ev_g, ev_tup, ev_lst, ev_bin, ev_neg, ev_nt, ev_cmp, ev_chn, ev_an, ev_orr, ev_ife, ev_ix, ev_sl, ev_rev, ev_call, ev_bi, ev_isi, ev_isx, ev_app, ev_ins, ev_frz, ev_fld, evs_nil, evs_cons, evo_no, evo_so, G.R.bind_ok, rOr_some, vr_s, dInt_i, dBool_b, b_add, b_sub, b_pow18, b_pow9, c_lt, c_le, c_gt, c_ge, c_is, c_isn, List.getElem?_cons_succ, List.getElem?_cons_zero, List.set_cons_succ, List.set_cons_zero, brR_t, brR_f, e0] <;> rfl) rfl]
    simp only [List.set_cons_succ, List.set_cons_zero]
    rw [st_for hev hf]
    rw [st_ifF (by simp only [ev_v, ev_k, ev_g, ev_tup, ev_lst, ev_bin, ev_neg, ev_nt, ev_cmp, ev_chn, ev_an, ev_orr, ev_ife, ev_ix, ev_sl, ev_rev, ev_call, ev_bi, ev_isi, ev_isx, ev_app, ev_ins, ev_frz, ev_fld, evs_nil, evs_cons, evo_no, evo_so, G.R.bind_ok, rOr_some, vr_s, dInt_i, dBool_b, b_add, b_sub, b_pow18, b_pow9, c_lt, c_le, c_gt, c_ge, c_is, c_isn, List.getElem?_cons_succ, List.getElem?_cons_zero, List.set_cons_succ, List.set_cons_zero, brR_t, brR_f, mkL_0, eq_cells c0, hz] <;> rfl), st_nil, RS.nxt_nx]
    rw [st_ret (by simp only [ev_v, ev_k, ev_g, ev_tup, ev_lst, ev_bin, ev_neg, ev_nt, ev_cmp, ev_chn, ev_an, ev_orr, ev_ife, ev_ix, ev_sl, ev_rev, ev_call, ev_bi, ev_isi, ev_isx, ev_app, ev_ins, ev_frz, ev_fld, evs_nil, evs_cons, evo_no, evo_so, G.R.bind_ok, rOr_some, vr_s, dInt_i, dBool_b, b_add, b_sub, b_pow18, b_pow9, c_lt, c_le, c_gt, c_ge, c_is, c_isn, List.getElem?_cons_succ, List.getElem?_cons_zero, List.set_cons_succ, List.set_cons_zero, brR_t, brR_f] <;> rfl)]
    rfl
end
end G

namespace G
open PySem PySem.Spec PyProof.Rows L2
open Classical
noncomputable section
/-! ### things that may be told by repr -/
def lfB : PyData → Bool
  | .none => true
  | .bool _ => true
  | .int i => decide (i.natAbs < 10 ^ 21)
  | .str x => PyData.canLay0 (.str x) && decide (x.length ≤ 60)
  | _ => false
/-- at most so many parts at each depth -/
def rp : List Nat → PyData → Bool
  | n :: ns, .list xs => decide (xs.length ≤ n) && xs.all (rp ns)
  | n :: ns, .tuple xs => decide (xs.length ≤ n) && xs.all (rp ns)
  | _, q => lfB q
theorem rp_lst {n : Nat} {ns : List Nat} {l : List PyData} : rp (n :: ns) (.list l) = true ↔ l.length ≤ n ∧ ∀ x ∈ l, rp ns x = true := by
  show (decide (l.length ≤ n) && l.all (rp ns)) = true ↔ _
  simp only [Bool.and_eq_true, decide_eq_true_eq, List.all_eq_true]
theorem rp_tup {n : Nat} {ns : List Nat} {l : List PyData} : rp (n :: ns) (.tuple l) = true ↔ l.length ≤ n ∧ ∀ x ∈ l, rp ns x = true := by
  show (decide (l.length ≤ n) && l.all (rp ns)) = true ↔ _
  simp only [Bool.and_eq_true, decide_eq_true_eq, List.all_eq_true]
/-- the weight that goes with the bounds -/
def rw_ : List Nat → Nat
  | [] => 70
  | n :: ns => n * (rw_ ns + 1) + 70
structure RpG (w d : Nat) (q : PyData) : Prop where
  sh : q.showable = true
  nd : q.hasDict = false
  dp : q.depth ≤ d
  wt : q.weight ≤ w
  lv : q.leavesShort 60 = true
theorem lf_g {q : PyData} (h : lfB q = true) : RpG 70 0 q := by
  cases q with
  | none => exact ⟨rfl, rfl, Nat.le_refl _, Nat.zero_le _, by decide⟩
  | bool b => exact ⟨rfl, rfl, Nat.le_refl _, Nat.zero_le _, by cases b <;> decide⟩
  | int i =>
    have hi : i.natAbs < 10 ^ 21 := of_decide_eq_true h
    have lg : i.natAbs ≠ 0 → i.natAbs.log2 < 70 := fun z => by
      rw [Nat.log2_lt z]
      exact Nat.lt_of_lt_of_le hi (by decide)
    have l0 : i.natAbs.log2 < 70 := by
      by_cases z : i.natAbs = 0
      · rw [z]; decide
      · exact lg z
    refine ⟨decide_eq_true (by omega), rfl, Nat.le_refl _, ?_, ?_⟩
    · show (if i == 0 then 0 else i.natAbs.log2 + 1) ≤ 70
      split <;> omega
    · refine decide_eq_true ?_
      show (Str.ofString (toString i)).length ≤ 60
      rw [PySem.ofString_length]
      have := int_text_length_le10 (k := 21) (by decide) hi
      omega
  | str x =>
    have h' : (PyData.canLay0 (.str x) && decide (x.length ≤ 60)) = true := h
    simp only [Bool.and_eq_true, decide_eq_true_eq] at h'
    refine ⟨rfl, rfl, Nat.le_refl _, ?_, ?_⟩
    · show x.cps.size ≤ 70
      have : x.cps.size = x.length := rfl
      omega
    · exact PyData.leavesShort_of_canLay0 60 (.str x) h'.1 rfl
  | list l => cases h
  | tuple l => cases h
  | dict l => cases h
theorem all_g {w d : Nat} : ∀ {l : List PyData}, (∀ x ∈ l, RpG w d x) → PyData.showableAll l = true ∧ PyData.hasDictAll l = false ∧ PyData.depthAll l ≤ d ∧ PyData.weightAll l ≤ l.length * (w + 1) ∧ PyData.leavesShortAll 60 l = true
  | [], _ => ⟨rfl, rfl, Nat.zero_le _, Nat.zero_le _, rfl⟩
  | x :: l, h => by
    obtain ⟨a1, a2, a3, a4, a5⟩ := h x List.mem_cons_self
    obtain ⟨b1, b2, b3, b4, b5⟩ := all_g (l := l) fun y hy => h y (List.mem_cons_of_mem _ hy)
    refine ⟨?_, ?_, ?_, ?_, ?_⟩
    · show (x.showable && PyData.showableAll l) = true
      rw [a1, b1]; rfl
    · show (x.hasDict || PyData.hasDictAll l) = false
      rw [a2, b2]; rfl
    · show max x.depth (PyData.depthAll l) ≤ d
      omega
    · show x.weight + 1 + PyData.weightAll l ≤ (l.length + 1) * (w + 1)
      rw [Nat.add_mul]
      omega
    · show (x.leavesShort 60 && PyData.leavesShortAll 60 l) = true
      rw [a5, b5]; rfl
theorem rp_g : ∀ (ns : List Nat) (q : PyData), rp ns q = true → RpG (rw_ ns) ns.length q := by
  intro ns
  induction ns with
  | nil =>
    intro q h
    exact lf_g (by cases q <;> exact h)
  | cons n ns ih =>
    intro q h
    have leaf : lfB q = true → RpG (rw_ (n :: ns)) (n :: ns).length q := fun h => by
      obtain ⟨a1, a2, a3, a4, a5⟩ := lf_g h
      exact ⟨a1, a2, Nat.le_trans a3 (Nat.zero_le _), Nat.le_trans a4 (Nat.le_add_left _ _), a5⟩
    cases q with
    | list l =>
      obtain ⟨h1, h2⟩ := rp_lst.mp h
      obtain ⟨a1, a2, a3, a4, a5⟩ := all_g fun x hx => ih x (h2 x hx)
      have := Nat.mul_le_mul_right (rw_ ns + 1) h1
      exact ⟨a1, a2, Nat.succ_le_succ a3, show PyData.weightAll l ≤ n * (rw_ ns + 1) + 70 by omega, a5⟩
    | tuple l =>
      obtain ⟨h1, h2⟩ := rp_tup.mp h
      obtain ⟨a1, a2, a3, a4, a5⟩ := all_g fun x hx => ih x (h2 x hx)
      have := Nat.mul_le_mul_right (rw_ ns + 1) h1
      exact ⟨a1, a2, Nat.succ_le_succ a3, show PyData.weightAll l ≤ n * (rw_ ns + 1) + 70 by omega, a5⟩
    | none => exact leaf h
    | bool b => exact leaf h
    | int i => exact leaf h
    | str x => exact leaf h
    | dict l => exact leaf h
theorem rp_ok {ns : List Nat} {q : PyData} (h : rp ns q = true) (hd : ns.length ≤ 60) (hw : 62 * rw_ ns + 60 ≤ 16777216) : RpOk q := by
  obtain ⟨a1, a2, a3, a4, a5⟩ := rp_g ns q h
  refine ⟨a1, a2, by omega, ?_⟩
  have := PyData.shown_le 60 (by decide) q a5
  have h2 : (60 + 2) * q.weight ≤ 62 * rw_ ns := Nat.mul_le_mul_left 62 a4
  rw [sizeLine_eq]
  omega
end
end G

namespace G
open PySem PySem.Spec PyProof.Rows L2
open Classical
noncomputable section
/-! ### towns bent -/
/-- what it tells -/
structure Bt (q : PyData) : Prop where
  f : fi 4 q = true
  r : rp [17, 17, 3] q = true
end
end G

namespace G
open PySem PySem.Spec PyProof.Rows L2
open Classical
noncomputable section
/-! ### k01: the law -/
theorem eqv_self {q : PyData} (h : SeqAt.shaped q = true) : PyData.eqv q q = true := SeqAt.eqv_refl q (Bool.and_eq_true_iff.mp h).1
/-- repr's text, the same both times -/
theorem str_same {s : Sto} {a : Str} : cmpop .ne (.p (.str a)) (.p (.str a)) s = .ok (.p (.bool false)) s := by
  unfold cmpop sEq sEs
  dsimp only
  rw [decide_eq_true rfl]
  rfl
/-! a great number -/
end
end G

namespace G
open PySem PySem.Spec PyProof.Rows L2
open Classical
noncomputable section
/-! ### evaluation put together -/
section
variable {P : Pg} {e : Env} {s : Sto} {a b c : E} {x y z : Bool} {i j k : Int} {d d1 d2 : D}
theorem B_an (h1 : ev P a e s = .ok (.p (.bool x)) s) (h2 : x = true → ev P b e s = .ok (.p (.bool y)) s) : ev P (.an a b) e s = .ok (.p (.bool (x && y))) s := by
  rw [ev_an, h1, R.bind_ok]
  cases x with
  | false => rfl
  | true => exact h2 rfl
theorem B_orr (h1 : ev P a e s = .ok (.p (.bool x)) s) (h2 : x = false → ev P b e s = .ok (.p (.bool y)) s) : ev P (.orr a b) e s = .ok (.p (.bool (x || y))) s := by
  rw [ev_orr, h1, R.bind_ok]
  cases x with
  | true => rfl
  | false => exact h2 rfl
theorem B_nt (h1 : ev P a e s = .ok (.p (.bool x)) s) : ev P (.nt a) e s = .ok (.p (.bool (!x))) s := by rw [ev_nt, h1]; rfl
theorem B_gt (h1 : ev P a e s = .ok (.p (.int i)) s) (h2 : ev P b e s = .ok (.p (.int j)) s) : ev P (.cmp .gt a b) e s = .ok (.p (.bool (decide (j < i)))) s := by rw [ev_cmp, h1, R.bind_ok, h2]; rfl
theorem B_eqI (h1 : ev P a e s = .ok (.p (.int i)) s) (h2 : ev P b e s = .ok (.p (.int j)) s) : ev P (.cmp .eq a b) e s = .ok (.p (.bool (i == j))) s := by rw [ev_cmp, h1, R.bind_ok, h2, R.bind_ok, eq_int]
theorem B_neP {p q : PyData} (h1 : ev P a e s = .ok (.p p) s) (h2 : ev P b e s = .ok (.p q) s) (k1 : SeqAt.shaped p = true) (k2 : SeqAt.shaped q = true) : ev P (.cmp .ne a b) e s = .ok (.p (.bool (!PyData.eqv p q))) s := by rw [ev_cmp, h1, R.bind_ok, h2, R.bind_ok, ne_p k1 k2]
theorem V_v {i : Nat} (h : e[i]? = some (some d)) : ev P (.v i) e s = .ok d s := by rw [ev_v, h]; rfl
theorem V_k {q : PyData} : ev P (.k q) e s = .ok (.p q) s := ev_k q
theorem V_c1 {f : Nat} {r : R D} (h1 : ev P a e s = .ok d s) (hf : P.Φ f [d] s = r) : ev P (.call f (.cons a .nil)) e s = r := by rw [ev_call, evs_cons, h1, R.bind_ok, evs_nil, R.bind_ok, R.bind_ok, hf]
theorem V_c2 {f : Nat} {r : R D} (h1 : ev P a e s = .ok d s) (h2 : ev P b e s = .ok d1 s) (hf : P.Φ f [d, d1] s = r) : ev P (.call f (.cons a (.cons b .nil))) e s = r := by rw [ev_call, evs_cons, h1, R.bind_ok, evs_cons, h2, R.bind_ok, evs_nil, R.bind_ok, R.bind_ok, R.bind_ok, hf]
theorem V_c3 {f : Nat} {r : R D} (h1 : ev P a e s = .ok d s) (h2 : ev P b e s = .ok d1 s) (h3 : ev P c e s = .ok d2 s) (hf : P.Φ f [d, d1, d2] s = r) : ev P (.call f (.cons a (.cons b (.cons c .nil)))) e s = r := by rw [ev_call, evs_cons, h1, R.bind_ok, evs_cons, h2, R.bind_ok, evs_cons, h3, R.bind_ok, evs_nil, R.bind_ok, R.bind_ok, R.bind_ok, R.bind_ok, hf]
theorem V_tup {es : Es} {qs : List PyData} (h : evs P es e s = .ok (qs.map D.p) s) (hl : qs.length ≤ 1000) : ev P (.tup es) e s = .ok (.p (.tuple qs)) s := by
  rw [ev_tup, h, R.bind_ok]
  unfold mkT
  rw [if_pos (by rw [List.length_map]; show qs.length ≤ 1000000; omega), allP_map]
theorem V_lst {es : Es} {qs : List PyData} (h : evs P es e s = .ok (qs.map D.p) s) (hl : qs.length ≤ 1000) : ev P (.lst false es) e s = .ok (.p (.list qs)) s := by
  rw [ev_lst, h, R.bind_ok, mkL_p _ _ (by omega)]
theorem Es_nil : evs P .nil e s = R.ok (([] : List PyData).map D.p) s := evs_nil
theorem Es_cons {es : Es} {q : PyData} {qs : List PyData} (h1 : ev P a e s = .ok (.p q) s) (h2 : evs P es e s = .ok (qs.map D.p) s) : evs P (.cons a es) e s = .ok ((q :: qs).map D.p) s := by rw [evs_cons, h1, R.bind_ok, h2]; rfl
theorem V_cat {p q : List PyData} (h1 : ev P a e s = .ok (.p (.list p)) s) (h2 : ev P b e s = .ok (.p (.list q)) s) (hl : p.length + q.length ≤ 1000000) : ev P (.bin .add false a b) e s = .ok (.p (.list (p ++ q))) s := by rw [ev_bin, h1, R.bind_ok, h2, R.bind_ok, b_catp _ _ hl]
end
/-! ### in -/
/-! ### names -/
def az : Str := "abcdefghijklmnopqrstuvwxyz"
def nmC (c : Nat) : Bool := decide (c ∈ az.cps.toList)
def nmS (z : Str) : Bool := decide (1 ≤ z.length) && (decide (z.length ≤ 8) && z.cps.toList.all nmC)
def isN : PyData → Bool
  | .str z => nmS z
  | _ => false
end
end G

namespace G
open PySem PySem.Spec PyProof.Rows L2
open Classical
noncomputable section

/-! ### more put together -/
theorem B_so {P : Pg} {e : Env} {s s1 : Sto} {c : E} {b : Bool} (h : ev P c e s = .ok (.p (.bool b)) s1) : evc P (.so c) e s = .ok b s1 := by
  simp only [evc, h, R.bind_ok, dBool_b, rOr_some]
/-- a list told of a list, thing by thing -/
theorem V_lcP {P : Pg} {e : Env} {s s1 : Sto} {α : Type} {it : It} {tg : Tg} {ow : List Nat} {el : E} {c : Eo} (items : α → Item) (l : List α) (q : α → Bool) (o : α → PyData) (hi : evi P it e s = .ok (l.map items) s1) (hl : l.length ≤ 1000) (hb : ∀ x ∈ l, ∃ e2, bindT tg (items x) s1 (wipeE e ow) = some e2 ∧ evc P c e2 s1 = .ok (q x) s1 ∧ (q x = true → ev P el e2 s1 = .ok (.p (o x)) s1)) : ev P (.lc false el ow tg it c) e s = .ok (.p (.list ((l.filter q).map o))) s1 := by
  simp only [ev, hi, R.bind_ok]
  rw [if_neg (fun z => z (by rw [List.length_map]; show l.length ≤ 1000000; omega)), lcL_filt items q (fun x => D.p (o x)) (fun x hx => ?_), R.bind_ok, show ((l.filter q).map fun x => D.p (o x)) = ((l.filter q).map o).map D.p from (List.map_map ..).symm, mkL_p _ _ (by rw [List.length_map]; have := List.length_filter_le q l; omega)]
  obtain ⟨e2, h1, h2, h3⟩ := hb x hx
  refine noX_of _ _ _ ?_
  rw [h1, rOr_some, h2, R.bind_ok]
  by_cases z : q x = true
  · rw [if_pos z, if_pos z, h3 z]; rfl
  · rw [if_neg z, if_neg z]
/-! ### ends -/
def isE (n : Nat) : PyData → Bool
  | .tuple [.int r, .int sd] => decide (0 ≤ r) && (decide (r < (n : Int)) && (decide (sd = 0) || decide (sd = 1)))
  | _ => false
section
variable {P : Pg} {e : Env} {s : Sto}
theorem Es_2 {a b : E} {p q : PyData} (h1 : ev P a e s = .ok (.p p) s) (h2 : ev P b e s = .ok (.p q) s) : evs P (.cons a (.cons b .nil)) e s = .ok (([p, q] : List PyData).map D.p) s := Es_cons h1 (Es_cons h2 Es_nil)
end
end
end G

namespace G
open PySem PySem.Spec PyProof.Rows L2
open Classical
noncomputable section
/-! ### walkers -/
def wkO (n : Nat) : PyData → Bool
  | .tuple [a, b] => isN a && isE n b
  | _ => false
def nlt : PyData → PyData → Bool
  | .tuple [.str x, _], .tuple [.str y, _] => decide (x.cps.toList < y.cps.toList)
  | _, _ => false
def walkOk (n : Nat) (ws : List PyData) (k : Nat) : Bool := wkO n (ws.getD k .none) && (decide (k = 0) || nlt (ws.getD (k - 1) .none) (ws.getD k .none))
end
end G

namespace G
open PySem PySem.Spec PyProof.Rows L2
open Classical
noncomputable section
/-! ### standings -/
def postOk (ls : List (Int × Int)) (v : Nat) : PyData → Bool
  | .tuple [.int r, .int sd] => isE ls.length (.tuple [.int r, .int sd]) && (atL ls r.toNat sd.toNat == (v : Int))
  | _ => false
def swW (ls : List (Int × Int)) (ws : List PyData) : PyData := if ws.length ≤ 4 then (match (List.range ws.length).find? (fun k => !walkOk ls.length ws k) with
  | some k => t2 "walker" k
  | none => .none) else t1 "walkers"
def swP (many : Int) (ls : List (Int × Int)) (ps ws : List PyData) : PyData := if (ps.length : Int) = many then (match (List.range ps.length).find? (fun v => !postOk ls v (ps.getD v .none)) with
  | some v => t2 "post" v
  | none => swW ls ws) else t1 "posts"
def swrong (many : Int) (ls : List (Int × Int)) : PyData → PyData
  | .tuple [.list ps, .list ws] => swP many ls ps ws
  | _ => t1 "standing"
theorem rng_l {P : Pg} {e : Env} {s s1 : Sto} {a : E} {n : Nat} (h : ev P a e s = .ok (.p (.int (n : Int))) s1) (hn : n ≤ 1000) : evi P (.rng a) e s = .ok ((List.range n).map fun (k : Nat) => Item.one (.p (.int (k : Int)))) s1 := by
  rw [r_rng h (by omega) (by omega)]
  rfl
end
end G

namespace G
open PySem PySem.Spec PyProof.Rows L2
open Classical
noncomputable section
/-! ### the law's own look at a standing -/
/-! ### refusing -/
structure SwF (t : Nat) (Φ : List D → Sto → R D) : Prop where
  good : ∀ {s : Sto} {many : Int} {ls : List (Int × Int)} {q : PyData}, Tw 8 many ls → fi 4 q = true → Φ [.p (townP many ls), .p q] s = .ok (.p (swrong many ls q)) s
  town : ∀ {s : Sto} {x q : PyData}, fi 4 x = true → twrong x ≠ .none → Φ [.p x, .p q] s = .exc ⟨t, some (.p (twrong x))⟩ s
structure MbsF (t u : Nat) (Φ : List D → Sto → R D) : Prop where
  good : ∀ {s : Sto} {many : Int} {ls : List (Int × Int)} {q : PyData}, Tw 8 many ls → fi 4 q = true → swrong many ls q = .none → Φ [.p (townP many ls), .p q] s = .ok (.p .none) s
  st : ∀ {s : Sto} {many : Int} {ls : List (Int × Int)} {q : PyData}, Tw 8 many ls → fi 4 q = true → swrong many ls q ≠ .none → Φ [.p (townP many ls), .p q] s = .exc ⟨u, some (.p (swrong many ls q))⟩ s
  town : ∀ {s : Sto} {x q : PyData}, fi 4 x = true → twrong x ≠ .none → Φ [.p x, .p q] s = .exc ⟨t, some (.p (twrong x))⟩ s
/-- what refuses no town, then no standing -/
structure RfF (t u : Nat) (Φ : D → D → Sto → R D) : Prop where
  st : ∀ {s : Sto} {many : Int} {ls : List (Int × Int)} {q : PyData}, Tw 8 many ls → fi 4 q = true → swrong many ls q ≠ .none → Φ (.p (townP many ls)) (.p q) s = .exc ⟨u, some (.p (swrong many ls q))⟩ s
  town : ∀ {s : Sto} {x q : PyData}, fi 4 x = true → twrong x ≠ .none → Φ (.p x) (.p q) s = .exc ⟨t, some (.p (twrong x))⟩ s
structure Ref2F (Φ : List D → Sto → R D) : Prop where
  st : ∀ {s : Sto} {many : Int} {ls : List (Int × Int)} {q : PyData}, Tw 8 many ls → fi 4 q = true → swrong many ls q ≠ .none → Φ [.p (townP many ls), .p q, .p (.bool false)] s = .ok (.p (.list [.str "standing", swrong many ls q])) s
  town : ∀ {s : Sto} {x q : PyData} {b : Bool}, fi 4 x = true → twrong x ≠ .none → Φ [.p x, .p q, .p (.bool b)] s = .ok (.p (.list [.str "town", twrong x])) s
theorem B_isx {P : Pg} {e : Env} {s : Sto} {a : E} {d : D} {t : Option Nat} {b : Bool} (h : ev P a e s = .ok d s) (hb : isiX P.sb s d t = some b) : ev P (.isx a t) e s = .ok (.p (.bool b)) s := by rw [ev_isx, h, R.bind_ok, hb]; rfl
theorem V_wr {P : Pg} {e : Env} {s : Sto} {a : E} {n c : Nat} {d : D} (h : ev P a e s = .ok (.o n) s) (hc : s[n]? = some (some (.exn c (some d)))) (hs : (P.sb c c).isSome = true) : ev P (.fld a "wrong") e s = .ok d s := by rw [ev_fld, h, R.bind_ok, fld_wr hc hs]
end
end G

namespace G
open PySem PySem.Spec PyProof.Rows L2
open Classical
noncomputable section
/-! ### standings drawn -/
def titles : List Str := ["a", "ann", "bo", "cy", "zed", "eighteen", "z", "step", "about", "fjlprsuv", "wxkm"]
def allT : List Str := titles ++ (["ab", "b", "zz", "mi"] : List Str)
def wkP (x : Str × (Nat × Nat)) : PyData := .tuple [.str x.1, enP x.2]
def stP (ps : List (Nat × Nat)) (ws : List (Str × (Nat × Nat))) : PyData := .tuple [.list (ps.map enP), .list (ws.map wkP)]
/-- a right standing of at most b walkers -/
structure Stn (b : Nat) (many : Int) (ls : List (Int × Int)) (ps : List (Nat × Nat)) (ws : List (Str × (Nat × Nat))) : Prop where
  pn : (ps.length : Int) = many
  po : ∀ (v : Nat) (x : Nat × Nat), ps[v]? = some x → x.1 < ls.length ∧ x.2 < 2 ∧ atL ls x.1 x.2 = (v : Int)
  wn : ws.length ≤ b
  wo : ∀ x ∈ ws, x.2.1 < ls.length ∧ x.2.2 < 2
  nm : (ws.map (·.1)).Pairwise fun a b => a.cps.toList < b.cps.toList
  nt : ∀ x ∈ ws, x.1 ∈ allT
/-! sorted texts -/
/-! drawing for each of a list -/
end
end G

namespace G
open PySem PySem.Spec PyProof.Rows L2
open Classical
noncomputable section
/-! ### sizes and depths -/
/-! right standings are looked at as right -/
/-! ### what is told, and how great it is -/
section
variable {P : Pg} {e : Env} {s : Sto}
theorem b_rpt {s : Sto} {xs : List PyData} {m : Nat} (h : xs.length ≤ 100) (hm : m ≤ 100) : binop .mul false (.p (.list xs)) (.p (.int (m : Int))) s = .ok (.p (.list (List.replicate m xs).flatten)) s := by
  show (if 0 ≤ (m : Int) ∧ (m : Int) ≤ 1000 ∧ (xs.map D.p).length ≤ 1000 then mkL false (List.replicate (m : Int).toNat (xs.map D.p)).flatten s else .bad) = _
  rw [if_pos ⟨by omega, by omega, by rw [List.length_map]; omega⟩]
  have e : (List.replicate (m : Int).toNat (xs.map D.p)).flatten = (List.replicate m xs).flatten.map D.p := by
    rw [List.map_flatten, List.map_replicate]
    rfl
  rw [e, mkL_p _ _ (by
    rw [List.length_flatten, List.map_replicate, List.sum_replicate_nat]
    exact Nat.le_trans (Nat.mul_le_mul hm h) (by decide))]
end
/-- a def that draws and tells data -/
theorem run_dr {P : Pg} {n N : Nat} {b : Ss} {args : List D} {s s' : Sto} {p c k : Nat} {q : PyData} (h : exs P b (args.map some ++ List.replicate (N - args.length) none) s = .rt (.p q) s') (hp : p < s.length) (hc : c < s.length) (pu : Pu s' p c k) (ks : Ks p c s s') : ∃ s2, runB P ⟨n, N, b, true⟩ args s = .ok (.p q) s2 ∧ Pu s2 p c k ∧ Kp p c s s2 := by
  obtain ⟨s2, ec, pu2, kp2⟩ := cut_ks hp hc pu ks
  refine ⟨s2, ?_, pu2, kp2⟩
  unfold runB
  show (match exs P b (args.map some ++ List.replicate (N - args.length) none) s with
    | .nx _ s' => finO _ (.p .none) s s'
    | .rt d s' => finO _ d s s'
    | .exc x _ s' => finX x s s'
    | _ => .bad) = _
  rw [h]
  exact finO_p rfl ec
end
end G

namespace G
open PySem PySem.Spec PyProof.Rows L2
open Classical
noncomputable section
/-! ### standings bent -/
end
end G

namespace G
open PySem PySem.Spec PyProof.Rows L2
open Classical
noncomputable section
/-! ### texts put together -/
/-! ### k02: the law -/
section
variable (P : Pg) {purse town standing names_right bent due standing_wrong refused pick town_wrong t u : Nat}
end
end
end G

namespace G
open PySem PySem.Spec PyProof.Rows L2
open Classical
noncomputable section
/-! ### k03: walks -/
abbrev Ws := List (Nat × Nat) × List (Str × (Nat × Nat))
def fsD (fs : List (Str × (Nat × Nat))) : List (Key × D) := fs.map fun x => (Sum.inr x.1, D.p (enP x.2))
def lk (fs : List (Str × (Nat × Nat))) (n : Str) : Option (Nat × Nat) := (fs.find? fun x => decide (x.1 = n)).map (·.2)
/-! deeds -/
/-! the walk's cells -/
abbrev insW (many : Int) (ls : List (Int × Int)) (pc fc : Nat) : Cell := .ins 1000 [("town", .p (townP many ls)), ("posts", .o pc), ("facing", .o fc)]
structure Wk (s : Sto) (o pc fc : Nat) (many : Int) (ls : List (Int × Int)) (st : Ws) : Prop where
  i : s[o]? = some (some (insW many ls pc fc))
  a : s[pc]? = some (some (.lst ((st.1.map enP).map D.p)))
  f : s[fc]? = some (some (.dct (fsD st.2)))
theorem Wk.ne {s : Sto} {o pc fc : Nat} {many : Int} {ls : List (Int × Int)} {st : Ws} (h : Wk s o pc fc many ls st) : o ≠ pc ∧ o ≠ fc ∧ pc ≠ fc := by
  refine ⟨fun z => ?_, fun z => ?_, fun z => ?_⟩
  · have := h.i; rw [z, h.a] at this; cases this
  · have := h.i; rw [z, h.f] at this; cases this
  · have := h.a; rw [z, h.f] at this; cases this
section
variable {P : Pg} {e : Env} {s s1 : Sto} {a b : E}
end
end
end G

namespace G
open PySem PySem.Spec PyProof.Rows L2
open Classical
noncomputable section
/-! ### walks made and told -/
theorem mapO_res {k : Nat} {s : Sto} (l : List PyData) : mapO (res k s) (l.map D.p) = some l := by
  have := mapO_map (res k s) D.p id (fun a => res_p k s a) l
  rw [this, List.map_id]
theorem res_lst {k n : Nat} {s : Sto} {l : List PyData} (h : s[n]? = some (some (.lst (l.map D.p)))) : res (k + 1) s (.o n) = some (.list l) := by
  unfold res
  rw [cel_of h]
  dsimp only
  rw [mapO_res]
  rfl
/-- a pair of lists in the store -/
structure Pr (s : Sto) (m a c : Nat) (ps ws : List PyData) : Prop where
  t : s[m]? = some (some (.tup [.o a, .o c]))
  a : s[a]? = some (some (.lst (ps.map D.p)))
  c : s[c]? = some (some (.lst (ws.map D.p)))
theorem Pr.res {s : Sto} {m a c : Nat} {ps ws : List PyData} (h : Pr s m a c ps ws) : res 8 s (.o m) = some (.tuple [.list ps, .list ws]) := by
  unfold G.res
  rw [cel_of h.t]
  simp only [mapO, res_lst h.a, res_lst h.c]
  rfl
/-! making -/
/-! sorted items -/
end
end G

namespace G
open PySem PySem.Spec PyProof.Rows L2
open Classical
noncomputable section
/-! ### rows looked at -/
/-! ### rows led -/
end
end G

namespace G
open PySem PySem.Spec PyProof.Rows L2
open Classical
noncomputable section
/-! ### the law's own walking -/
structure Wc (s : Sto) (pc fc : Nat) (st : Ws) : Prop where
  a : s[pc]? = some (some (.lst ((st.1.map enP).map D.p)))
  f : s[fc]? = some (some (.dct (fsD st.2)))
end
end G

namespace G
open PySem PySem.Spec PyProof.Rows L2
open Classical
noncomputable section
/-! ### the law's own trail -/
/-! ### spoiling -/
/-! ### comparing what is told -/
theorem V_reprD {P : Pg} {e : Env} {s s1 : Sto} {a : E} {d : D} {q : PyData} (h1 : ev P a e s = .ok d s1) (r1 : res 8 s1 d = some q) (hq : RpOk q) : ev P (.bi .repr false a) e s = .ok (.p (.str q.shown)) s1 := by
  rw [ev_bi, h1, R.bind_ok]
  unfold biop
  simp only [r1]
  exact if_pos hq
theorem V_neS {P : Pg} {e : Env} {s s1 s2 : Sto} {a b : E} {x : Str} (h1 : ev P a e s = .ok (.p (.str x)) s1) (h2 : ev P b e s1 = .ok (.p (.str x)) s2) : ev P (.cmp .ne a b) e s = .ok (.p (.bool false)) s2 := by
  rw [ev_cmp, h1, R.bind_ok, h2, R.bind_ok, str_same]
theorem Pu.same {s s' : Sto} {p c k : Nat} (h : Pu s p c k) (h1 : s'[p]? = s[p]?) (h2 : s'[c]? = s[c]?) : Pu s' p c k := by
  obtain ⟨l, t, k1, k2, k3⟩ := h.ex
  exact ⟨h.ne, l, t, by rw [h1]; exact k1, by rw [h2]; exact k2, k3⟩
/-! ### how great -/
end
end G

namespace G
open PySem PySem.Spec PyProof.Rows L2
open Classical
noncomputable section
/-! ### k03: the law -/
theorem Pr.kp {s s' : Sto} {m a c x y : Nat} {ps ws : List PyData} (h : Pr s m a c ps ws) (k : Kp x y s s') (h1 : m ≠ x ∧ m ≠ y) (h2 : a ≠ x ∧ a ≠ y) (h3 : c ≠ x ∧ c ≠ y) : Pr s' m a c ps ws := ⟨by rw [k.2 _ h1.1 h1.2]; exact h.t, by rw [k.2 _ h2.1 h2.2]; exact h.a, by rw [k.2 _ h3.1 h3.2]; exact h.c⟩
theorem asSq_tup {s : Sto} {n : Nat} {xs : List D} (h : s[n]? = some (some (.tup xs))) : asSq s (.o n) = some xs := by
  have a1 : asL s (.o n) = none := by
    show (match cel s n with | some (.lst xs) => some xs | _ => none) = _
    rw [cel_of h]
  unfold asSq
  rw [a1]
  show (match cel s n with | some (.tup xs) => some xs | _ => none) = _
  rw [cel_of h]
section
variable (P : Pg) {purse town standing row walked led_by trail_of trail draw spoil : Nat}
end
end
end G

namespace G
open Classical
noncomputable section
/-! ### hanging together -/
inductive Con (E : List (Nat × Nat)) : Nat → Nat → Prop
  | refl (a : Nat) : Con E a a
  | edge {a b : Nat} : (a, b) ∈ E → Con E a b
  | symm {a b : Nat} : Con E a b → Con E b a
  | trans {a b c : Nat} : Con E a b → Con E b c → Con E a c
theorem Con.mono {E F : List (Nat × Nat)} (h : ∀ x ∈ E, x ∈ F) {a b : Nat} (c : Con E a b) : Con F a b := by
  induction c with
  | refl a => exact .refl a
  | edge m => exact .edge (h _ m)
  | symm _ ih => exact .symm ih
  | trans _ _ i1 i2 => exact .trans i1 i2
theorem Con.one {E F : List (Nat × Nat)} (h : ∀ x, x ∈ E ↔ x ∈ F) {a b : Nat} : Con E a b ↔ Con F a b := ⟨fun c => c.mono fun x hx => (h x).mp hx, fun c => c.mono fun x hx => (h x).mpr hx⟩
theorem Con.nil {a b : Nat} (c : Con [] a b) : a = b := by
  induction c with
  | refl a => rfl
  | edge m => cases m
  | symm _ ih => exact ih.symm
  | trans _ _ i1 i2 => exact i1.trans i2
theorem Con.snoc {E : List (Nat × Nat)} {u v a b : Nat} : Con (E ++ [(u, v)]) a b ↔ Con E a b ∨ (Con E a u ∧ Con E v b) ∨ (Con E a v ∧ Con E u b) := by
  constructor
  · intro c
    induction c with
    | refl a => exact .inl (.refl a)
    | edge m =>
      rcases List.mem_append.mp m with m | m
      · exact .inl (.edge m)
      · have := List.mem_singleton.mp m
        cases this
        exact .inr (.inl ⟨.refl _, .refl _⟩)
    | symm _ ih =>
      rcases ih with h | ⟨h1, h2⟩ | ⟨h1, h2⟩
      · exact .inl h.symm
      · exact .inr (.inr ⟨h2.symm, h1.symm⟩)
      · exact .inr (.inl ⟨h2.symm, h1.symm⟩)
    | trans _ _ i1 i2 =>
      rcases i1 with h | ⟨h1, h2⟩ | ⟨h1, h2⟩ <;> rcases i2 with k | ⟨k1, k2⟩ | ⟨k1, k2⟩
      · exact .inl (h.trans k)
      · exact .inr (.inl ⟨h.trans k1, k2⟩)
      · exact .inr (.inr ⟨h.trans k1, k2⟩)
      · exact .inr (.inl ⟨h1, h2.trans k⟩)
      · exact .inr (.inl ⟨h1, k2⟩)
      · exact .inl (h1.trans k2)
      · exact .inr (.inr ⟨h1, h2.trans k⟩)
      · exact .inl (h1.trans k2)
      · exact .inr (.inr ⟨h1, k2⟩)
  · have up : ∀ {a b : Nat}, Con E a b → Con (E ++ [(u, v)]) a b := fun c => c.mono fun x hx => List.mem_append_left _ hx
    have e : Con (E ++ [(u, v)]) u v := .edge (List.mem_append_right _ (by simp))
    rintro (h | ⟨h1, h2⟩ | ⟨h1, h2⟩)
    · exact up h
    · exact ((up h1).trans e).trans (up h2)
    · exact ((up h1).trans e.symm).trans (up h2)
/-! by least places -/
structure LI (n : Nat) (E : List (Nat × Nat)) (l : List Nat) : Prop where
  len : l.length = n
  con : ∀ (a x : Nat), l[a]? = some x → Con E a x
  le : ∀ (a x : Nat), l[a]? = some x → x ≤ a
  one : ∀ (a b x y : Nat), l[a]? = some x → l[b]? = some y → Con E a b → x = y
theorem LI.nil (n : Nat) : LI n [] (List.range n) := by
  have g : ∀ (a x : Nat), (List.range n)[a]? = some x → x = a := fun a x h => by
    obtain ⟨h1, h2⟩ := List.getElem?_eq_some_iff.mp h
    rw [List.getElem_range] at h2
    exact h2.symm
  refine ⟨List.length_range, fun a x h => ?_, fun a x h => ?_, fun a b x y h1 h2 c => ?_⟩
  · rw [g a x h]; exact .refl a
  · rw [g a x h]; exact Nat.le_refl a
  · rw [g a x h1, g b y h2, c.nil]
theorem LI.step {n : Nat} {E : List (Nat × Nat)} {l : List Nat} (h : LI n E l) {u v x y : Nat} (hu : l[u]? = some x) (hv : l[v]? = some y) : LI n (E ++ [(u, v)]) (l.map fun z => if z = max x y then min x y else z) := by
  have up : ∀ {a b : Nat}, Con E a b → Con (E ++ [(u, v)]) a b := fun c => c.mono fun x hx => List.mem_append_left _ hx
  have e : Con (E ++ [(u, v)]) u v := .edge (List.mem_append_right _ (by simp))
  have xy : Con (E ++ [(u, v)]) x y := ((up (h.con u x hu)).symm.trans e).trans (up (h.con v y hv))
  have mm : Con (E ++ [(u, v)]) (max x y) (min x y) := by
    rcases Nat.le_total x y with q | q
    · rw [Nat.max_eq_right q, Nat.min_eq_left q]; exact xy.symm
    · rw [Nat.max_eq_left q, Nat.min_eq_right q]; exact xy
  have g : ∀ (a z : Nat), (l.map fun z => if z = max x y then min x y else z)[a]? = some z → ∃ w, l[a]? = some w ∧ z = if w = max x y then min x y else w := fun a z hz => by
    rw [List.getElem?_map] at hz
    cases q : l[a]? with
    | none => rw [q] at hz; cases hz
    | some w =>
      rw [q] at hz
      cases hz
      exact ⟨w, rfl, rfl⟩
  refine ⟨by rw [List.length_map]; exact h.len, fun a z hz => ?_, fun a z hz => ?_, fun a b z1 z2 h1 h2 c => ?_⟩
  · obtain ⟨w, hw, rfl⟩ := g a z hz
    by_cases q : w = max x y
    · rw [if_pos q]
      exact (up (h.con a w hw)).trans (by rw [q]; exact mm)
    · rw [if_neg q]
      exact up (h.con a w hw)
  · obtain ⟨w, hw, rfl⟩ := g a z hz
    have := h.le a w hw
    split
    · omega
    · exact this
  · obtain ⟨w1, hw1, rfl⟩ := g a z1 h1
    obtain ⟨w2, hw2, rfl⟩ := g b z2 h2
    have both : ∀ w, w = x ∨ w = y → (if w = max x y then min x y else w) = min x y := fun w hw => by
      split
      · rfl
      · rcases hw with rfl | rfl <;> omega
    rcases Con.snoc.mp c with c | ⟨c1, c2⟩ | ⟨c1, c2⟩
    · rw [h.one a b w1 w2 hw1 hw2 c]
    · rw [both w1 (.inl (h.one a u w1 x hw1 hu c1)), both w2 (.inr (h.one b v w2 y hw2 hv c2.symm))]
    · rw [both w1 (.inr (h.one a v w1 y hw1 hv c1)), both w2 (.inl (h.one b u w2 x hw2 hu c2.symm))]
/-! by lots -/
def rise (l : List Nat) : Prop := l.Pairwise (· < ·)
structure LO (n : Nat) (E : List (Nat × Nat)) (lots : List (List Nat)) : Prop where
  nd : lots.Nodup
  ri : ∀ l ∈ lots, rise l
  ne : ∀ l ∈ lots, l ≠ []
  al : ∀ a, a < n → ∃ l ∈ lots, a ∈ l
  cl : ∀ l ∈ lots, ∀ a ∈ l, ∀ b, b ∈ l ↔ b < n ∧ Con E a b
theorem LO.lt {n : Nat} {E : List (Nat × Nat)} {lots : List (List Nat)} (h : LO n E lots) {l : List Nat} (hl : l ∈ lots) {a : Nat} (ha : a ∈ l) : a < n := ((h.cl l hl a ha a).mp ha).1
/-- the lot of a place -/
theorem LO.uniq {n : Nat} {E : List (Nat × Nat)} {lots : List (List Nat)} (h : LO n E lots) {l m : List Nat} (hl : l ∈ lots) (hm : m ∈ lots) {a b : Nat} (ha : a ∈ l) (hb : b ∈ m) (c : Con E a b) : l = m := by
  refine rise_one (· < ·) (fun a => Nat.lt_irrefl a) (fun a b h1 h2 => by omega) (h.ri l hl) (h.ri m hm) fun x => ?_
  rw [h.cl l hl a ha x, h.cl m hm b hb x]
  exact ⟨fun ⟨h1, h2⟩ => ⟨h1, c.symm.trans h2⟩, fun ⟨h1, h2⟩ => ⟨h1, c.trans h2⟩⟩
theorem LO.nil (n : Nat) : LO n [] ((List.range n).map fun v => [v]) := by
  refine ⟨?_, fun l hl => ?_, fun l hl => ?_, fun a ha => ⟨[a], List.mem_map.mpr ⟨a, List.mem_range.mpr ha, rfl⟩, by simp⟩, fun l hl a ha b => ?_⟩
  · exact List.pairwise_map.mpr (List.nodup_range.imp fun {a b} h e => h (by simpa using e))
  · obtain ⟨v, _, rfl⟩ := List.mem_map.mp hl
    exact List.pairwise_singleton _ _
  · obtain ⟨v, _, rfl⟩ := List.mem_map.mp hl
    exact fun z => by cases z
  · obtain ⟨v, hv, rfl⟩ := List.mem_map.mp hl
    have := List.mem_singleton.mp ha
    subst this
    have lv := List.mem_range.mp hv
    constructor
    · intro hb
      rw [List.mem_singleton.mp hb]
      exact ⟨lv, .refl _⟩
    · rintro ⟨_, c⟩
      rw [c.nil]
      simp
def jn (u v : Nat) (l : List Nat) : Bool := decide (u ∈ l) || decide (v ∈ l)
def leN (a b : Nat) : Bool := decide (a ≤ b)
theorem srt_rise {l : List Nat} (h : l.Nodup) : rise (l.mergeSort leN) := by
  have h1 : (l.mergeSort leN).Pairwise fun a b => leN a b = true := by
    refine List.pairwise_mergeSort (le := leN) (fun a b c h1 h2 => ?_) (fun a b => ?_) l
    · exact decide_eq_true (Nat.le_trans (of_decide_eq_true h1) (of_decide_eq_true h2))
    · unfold leN
      rcases Nat.le_total a b with q | q
      · rw [decide_eq_true q]; rfl
      · rw [decide_eq_true q, Bool.or_true]
  have h2 : (l.mergeSort leN).Nodup := (List.mergeSort_perm l leN).nodup_iff.mpr h
  exact (h1.and h2).imp fun {a b} ⟨q1, q2⟩ => Nat.lt_of_le_of_ne (of_decide_eq_true q1) q2
theorem LO.step {n : Nat} {E : List (Nat × Nat)} {lots : List (List Nat)} (h : LO n E lots) {u v : Nat} (hu : u < n) (hv : v < n) : LO n (E ++ [(u, v)]) (lots.filter (fun l => !jn u v l) ++ [((lots.filter (jn u v)).flatten).mergeSort leN]) := by
  have up : ∀ {a b : Nat}, Con E a b → Con (E ++ [(u, v)]) a b := fun c => c.mono fun x hx => List.mem_append_left _ hx
  have e : Con (E ++ [(u, v)]) u v := .edge (List.mem_append_right _ (by simp))
  have jm : ∀ l, jn u v l = true ↔ u ∈ l ∨ v ∈ l := fun l => by unfold jn; simp
  have mem : ∀ x, x ∈ ((lots.filter (jn u v)).flatten).mergeSort leN ↔ x < n ∧ (Con E u x ∨ Con E v x) := by
    intro x
    rw [(List.mergeSort_perm _ _).mem_iff, List.mem_flatten]
    constructor
    · rintro ⟨l, hl, hx⟩
      obtain ⟨h1, h2⟩ := List.mem_filter.mp hl
      rcases (jm l).mp h2 with q | q
      · obtain ⟨k1, k2⟩ := (h.cl l h1 u q x).mp hx
        exact ⟨k1, .inl k2⟩
      · obtain ⟨k1, k2⟩ := (h.cl l h1 v q x).mp hx
        exact ⟨k1, .inr k2⟩
    · rintro ⟨hx, c | c⟩
      · obtain ⟨l, hl, hul⟩ := h.al u hu
        exact ⟨l, List.mem_filter.mpr ⟨hl, (jm l).mpr (.inl hul)⟩, (h.cl l hl u hul x).mpr ⟨hx, c⟩⟩
      · obtain ⟨l, hl, hvl⟩ := h.al v hv
        exact ⟨l, List.mem_filter.mpr ⟨hl, (jm l).mpr (.inr hvl)⟩, (h.cl l hl v hvl x).mpr ⟨hx, c⟩⟩
  have nd : ((lots.filter (jn u v)).flatten).Nodup := by
    refine List.pairwise_flatten.mpr ⟨fun l hl => ?_, ?_⟩
    · exact (h.ri l (List.mem_filter.mp hl).1).imp fun {a b} q => Nat.ne_of_lt q
    · have nf : (lots.filter (jn u v)).Nodup := h.nd.sublist List.filter_sublist
      refine nf.imp_of_mem fun {l m} hl hm ne x hx y hy z => ne ?_
      subst z
      exact h.uniq (List.mem_filter.mp hl).1 (List.mem_filter.mp hm).1 hx hy (.refl x)
  have uS := (mem u).mpr ⟨hu, .inl (.refl u)⟩
  have rS := srt_rise nd
  generalize ((lots.filter (jn u v)).flatten).mergeSort leN = S at mem uS rS
  have rest : ∀ l, l ∈ lots.filter (fun l => !jn u v l) ↔ l ∈ lots ∧ u ∉ l ∧ v ∉ l := fun l => by
    rw [List.mem_filter]
    constructor
    · rintro ⟨h1, h2⟩
      refine ⟨h1, fun z => ?_, fun z => ?_⟩
      · rw [(jm l).mpr (.inl z)] at h2; cases h2
      · rw [(jm l).mpr (.inr z)] at h2; cases h2
    · rintro ⟨h1, h2, h3⟩
      refine ⟨h1, ?_⟩
      cases q : jn u v l with
      | false => rfl
      | true => rcases (jm l).mp q with z | z
                · exact absurd z h2
                · exact absurd z h3
  refine ⟨?_, fun l hl => ?_, fun l hl => ?_, fun a ha => ?_, fun l hl a ha b => ?_⟩
  · refine List.nodup_append.mpr ⟨h.nd.sublist List.filter_sublist, by simp, fun l hl m hm z => ?_⟩
    have := List.mem_singleton.mp hm
    subst this
    subst z
    exact ((rest _).mp hl).2.1 uS
  · rcases List.mem_append.mp hl with hl | hl
    · exact h.ri l ((rest l).mp hl).1
    · rw [List.mem_singleton.mp hl]
      exact rS
  · rcases List.mem_append.mp hl with hl | hl
    · exact h.ne l ((rest l).mp hl).1
    · rw [List.mem_singleton.mp hl]
      exact fun z => by rw [z] at uS; cases uS
  · obtain ⟨l, hl, hal⟩ := h.al a ha
    cases q : jn u v l with
    | false => exact ⟨l, List.mem_append_left _ (List.mem_filter.mpr ⟨hl, by rw [q]; rfl⟩), hal⟩
    | true =>
      refine ⟨S, List.mem_append_right _ (by simp), (mem a).mpr ⟨ha, ?_⟩⟩
      rcases (jm l).mp q with z | z
      · exact .inl ((h.cl l hl u z a).mp hal).2
      · exact .inr ((h.cl l hl v z a).mp hal).2
  · rcases List.mem_append.mp hl with hl | hl
    · obtain ⟨h1, h2, h3⟩ := (rest l).mp hl
      rw [h.cl l h1 a ha b, Con.snoc]
      constructor
      · rintro ⟨k1, k2⟩
        exact ⟨k1, .inl k2⟩
      · rintro ⟨k1, k2 | ⟨k2, _⟩ | ⟨k2, _⟩⟩
        · exact ⟨k1, k2⟩
        · exact absurd ((h.cl l h1 a ha u).mpr ⟨hu, k2⟩) h2
        · exact absurd ((h.cl l h1 a ha v).mpr ⟨hv, k2⟩) h3
    · have := List.mem_singleton.mp hl
      subst this
      obtain ⟨_, ca⟩ := (mem a).mp ha
      rw [mem b, Con.snoc]
      constructor
      · rintro ⟨k1, k2⟩
        refine ⟨k1, ?_⟩
        rcases ca with ca | ca <;> rcases k2 with k2 | k2
        · exact .inl (ca.symm.trans k2)
        · exact .inr (.inl ⟨ca.symm, k2⟩)
        · exact .inr (.inr ⟨ca.symm, k2⟩)
        · exact .inl (ca.symm.trans k2)
      · rintro ⟨k1, k2 | ⟨_, k2⟩ | ⟨_, k2⟩⟩
        · rcases ca with ca | ca
          · exact ⟨k1, .inl (ca.trans k2)⟩
          · exact ⟨k1, .inr (ca.trans k2)⟩
        · exact ⟨k1, .inr k2⟩
        · exact ⟨k1, .inl k2⟩
/-! both the same -/
def heapsL (n : Nat) (l R : List Nat) : List (List Nat) := R.map fun r => (List.range n).filter fun p => decide (l[p]? = some r)
end
end G

namespace G
open PySem PySem.Spec PyProof.Rows L2
open Classical
noncomputable section
/-! ### what is held -/
def rdsL (ps : List (Nat × Nat)) (ws : List (Str × (Nat × Nat))) : List Nat := ps.map (·.1) ++ ws.map (·.2.1)
def iN (l : List Nat) : List Int := l.map fun (x : Nat) => (x : Int)
/-! ### heaps -/
def eOf (ls : List (Int × Int)) (r : Nat) : Nat × Nat := ((atL ls r 0).toNat, (atL ls r 1).toNat)
def stL (ls : List (Int × Int)) (l : List Nat) (r : Nat) : List Nat := l.map fun z => if z = max (l.getD (eOf ls r).1 0) (l.getD (eOf ls r).2 0) then min (l.getD (eOf ls r).1 0) (l.getD (eOf ls r).2 0) else z
def lsL (n : Nat) (ls : List (Int × Int)) (rs : List Nat) : List Nat := rs.foldl (stL ls) (List.range n)
end
end G

namespace G
open PySem PySem.Spec PyProof.Rows L2
open Classical
noncomputable section
/-! ### heaps_in -/
end
end G

namespace G
open PySem PySem.Spec PyProof.Rows L2
open Classical
noncomputable section
/-! ### the law's own look at what is held -/
end
end G

namespace G
open PySem PySem.Spec PyProof.Rows L2
open Classical
noncomputable section
/-! ### lists of numbers, compared and sorted -/
end
end G

namespace G
open PySem PySem.Spec PyProof.Rows L2
open Classical
noncomputable section
/-! ### the law's own heaps -/
end
end G

namespace G
open PySem PySem.Spec PyProof.Rows L2
open Classical
noncomputable section
/-! ### both ways of heaps tell the same -/
/-! ### goers -/
def goL (ls : List (Int × Int)) (ws : List (Str × (Nat × Nat))) (heap : List Nat) : List Str := (ws.filter fun x => decide ((atL ls x.2.1 x.2.2).toNat ∈ heap)).map (·.1)
end
end G

namespace G
open PySem PySem.Spec PyProof.Rows L2
open Classical
noncomputable section
/-! ### lines -/
def lineL (ps : List (Nat × Nat)) (ws : List (Str × (Nat × Nat))) (heap : List Nat) (gs : List Str) : List Nat := (heap.map fun v => (ps.getD v (0, 0)).1) ++ (ws.filter fun x => decide (x.1 ∈ gs)).map fun x => x.2.1
end
end G

namespace G
open PySem PySem.Spec PyProof.Rows L2
open Classical
noncomputable section
/-! ### pairs the other way about -/
def cntB (l : List Nat) (k : Nat) : Nat := ((List.range k).filter fun i => decide (l.getD k 0 < l.getD i 0)).length
def invL (l : List Nat) : Nat := ((List.range l.length).map (cntB l)).sum
end
end G

namespace G
open PySem PySem.Spec PyProof.Rows L2
open Classical
noncomputable section
/-! ### order_sign -/
def sg (n : Nat) : Int := if n % 2 = 1 then -1 else 1
end
end G

namespace G
open PySem PySem.Spec PyProof.Rows L2
open Classical
noncomputable section
/-! ### sides -/
def sdA (ps : List (Nat × Nat)) (heap : List Nat) : Nat := (heap.filter fun v => decide ((ps.getD v (0, 0)).2 = 1)).length
def sdB (ws : List (Str × (Nat × Nat))) (gs : List Str) : Nat := (ws.filter fun x => decide (x.1 ∈ gs) && decide (x.2.2 = 0)).length
end
end G

namespace G
open PySem PySem.Spec PyProof.Rows L2
open Classical
noncomputable section
/-! ### clean heaps, signs -/
def clean (ps : List (Nat × Nat)) (ws : List (Str × (Nat × Nat))) (heap : List Nat) (gs : List Str) : Bool := !gs.isEmpty && (((dd (iN (lineL ps ws heap gs))).length : Int) == ((lineL ps ws heap gs).length : Int))
end
end G

namespace G
open PySem PySem.Spec PyProof.Rows L2
open Classical
noncomputable section
/-! ### the law's own sign -/
end
end G

namespace G
open PySem PySem.Spec PyProof.Rows L2
open Classical
noncomputable section
/-! ### heaps with their goers -/
end
end G

namespace G
open PySem PySem.Spec PyProof.Rows L2
open Classical
noncomputable section

/-! ### the heaps, told once for all -/
theorem LO.ex (n : Nat) (E : List (Nat × Nat)) (hE : ∀ x ∈ E, x.1 < n ∧ x.2 < n) : ∃ lots, LO n E lots := by
  have gen : ∀ (F E : List (Nat × Nat)) (lots : List (List Nat)), LO n E lots → (∀ x ∈ F, x.1 < n ∧ x.2 < n) → ∃ lots', LO n (E ++ F) lots' := by
    intro F
    induction F with
    | nil => intro E lots h _; exact ⟨lots, by rw [List.append_nil]; exact h⟩
    | cons x F ih =>
      intro E lots h hF
      obtain ⟨u, v⟩ := x
      have hx := hF (u, v) List.mem_cons_self
      obtain ⟨l', h'⟩ := ih (E ++ [(u, v)]) _ (h.step hx.1 hx.2) (fun y hy => hF y (List.mem_cons_of_mem _ hy))
      exact ⟨l', by rw [List.append_assoc] at h'; exact h'⟩
  obtain ⟨l, h⟩ := gen E [] _ (LO.nil n) hE
  exact ⟨l, h⟩
def lstR (n : Nat) (l : List Nat) : List Nat := (List.range n).filter fun x => decide (x ∈ l)
def hpsL (many : Int) (ls : List (Int × Int)) (rs : List Nat) : List (List Nat) := heapsL many.toNat (lsL many.toNat ls rs) (lstR many.toNat (lsL many.toNat ls rs))
abbrev HH (many : Int) (ls : List (Int × Int)) (ps : List (Nat × Nat)) (ws : List (Str × (Nat × Nat))) : List (List Nat) := hpsL many ls (rdsL ps ws)
/-! ### sign_of -/
def sgV (ls : List (Int × Int)) (ps : List (Nat × Nat)) (ws : List (Str × (Nat × Nat))) (h : List Nat) : Int := sg (invL (lineL ps ws h (goL ls ws h)) + (sdA ps h + sdB ws (goL ls ws h)))
def sgHit (many : Int) (ls : List (Int × Int)) (ps : List (Nat × Nat)) (ws : List (Str × (Nat × Nat))) (v i : Nat) : Bool := decide (v ∈ (HH many ls ps ws).getD i []) && clean ps ws ((HH many ls ps ws).getD i []) (goL ls ws ((HH many ls ps ws).getD i []))
def sgOf (many : Int) (ls : List (Int × Int)) (ps : List (Nat × Nat)) (ws : List (Str × (Nat × Nat))) (v : Nat) : PyData := match (List.range (HH many ls ps ws).length).find? (sgHit many ls ps ws v) with
  | some i => .int (sgV ls ps ws ((HH many ls ps ws).getD i []))
  | none => .none
def SgF (Φ : List D → Sto → R D) : Prop := ∀ {s : Sto} {b : Nat} {many : Int} {ls : List (Int × Int)} {ps : List (Nat × Nat)} {ws : List (Str × (Nat × Nat))} {v : Nat}, Tw 8 many ls → Stn b many ls ps ws → b ≤ 4 → (v : Int) < many → Φ [.p (townP many ls), .p (stP ps ws), .p (.int (v : Int))] s = .ok (.p (sgOf many ls ps ws v)) s
end
end G

namespace G
open PySem PySem.Spec PyProof.Rows L2
open Classical
noncomputable section

/-! ### k20: refusing -/
/-- sign_of: what it tells and refuses -/
structure SgAll (m t u : Nat) (Φ : List D → Sto → R D) : Prop where
  good : SgF Φ
  town : ∀ {s : Sto} {x q y : PyData}, fi 4 x = true → twrong x ≠ .none → Φ [.p x, .p q, .p y] s = .exc ⟨t, some (.p (twrong x))⟩ s
  st : ∀ {s : Sto} {many : Int} {ls : List (Int × Int)} {q y : PyData}, Tw 8 many ls → fi 4 q = true → swrong many ls q ≠ .none → Φ [.p (townP many ls), .p q, .p y] s = .exc ⟨u, some (.p (swrong many ls q))⟩ s
  place : ∀ {s : Sto} {b : Nat} {many : Int} {ls : List (Int × Int)} {ps : List (Nat × Nat)} {ws : List (Str × (Nat × Nat))} {y : PyData}, Tw 8 many ls → Stn b many ls ps ws → b ≤ 4 → noD y = true → plOk many y = false → Φ [.p (townP many ls), .p (stP ps ws), .p y] s = .exc ⟨m, none⟩ s
structure Rf20 (Φ : List D → Sto → R D) : Prop where
  town : ∀ {s : Sto} {x q y : PyData}, fi 4 x = true → twrong x ≠ .none → Φ [.p x, .p q, .p y] s = .ok (.p (.list [.bool true, .bool false, .bool false, .bool true])) s
  st : ∀ {s : Sto} {many : Int} {ls : List (Int × Int)} {q y : PyData}, Tw 8 many ls → fi 4 q = true → swrong many ls q ≠ .none → Φ [.p (townP many ls), .p q, .p y] s = .ok (.p (.list [.bool false, .bool true, .bool false, .bool true])) s
  place : ∀ {s : Sto} {b : Nat} {many : Int} {ls : List (Int × Int)} {ps : List (Nat × Nat)} {ws : List (Str × (Nat × Nat))} {y : PyData}, Tw 8 many ls → Stn b many ls ps ws → b ≤ 4 → noD y = true → plOk many y = false → Φ [.p (townP many ls), .p (stP ps ws), .p y] s = .ok (.p (.list [.bool false, .bool false, .bool true, .bool true])) s
structure Sb3 (P : Pg) : Prop where
  a : Sb P 1 3
  b : Sb P 1 2
  c : Sb P 2 3
end
end G

namespace G
open PySem PySem.Spec PyProof.Rows L2
open Classical
noncomputable section
/-! ### k20: the law -/
section
variable (P : Pg) {purse town standing heaps goers clean sign sign_of refused : Nat}
end
end
end G

namespace G
open PySem PySem.Spec PyProof.Rows L2
open Classical
noncomputable section

/-! ### values of a type, told as data -/
class Enc (α : Type) where
  enc : α → PyData
open Enc (enc)
instance encI : Enc Int := ⟨PyData.int⟩
instance encN : Enc Nat := ⟨fun n => PyData.int (n : Int)⟩
instance encB : Enc Bool := ⟨PyData.bool⟩
instance encS : Enc Str := ⟨PyData.str⟩
instance encT {α β : Type} [Enc α] [Enc β] : Enc (α × β) := ⟨fun x => PyData.tuple [enc x.1, enc x.2]⟩
instance encL {α : Type} [Enc α] : Enc (List α) := ⟨fun l => PyData.list (l.map enc)⟩
instance encU : Enc Unit := ⟨fun _ => PyData.none⟩
def encOf {α : Type} [Enc α] : Option α → PyData
  | none => .none
  | some x => enc x
instance encO {α : Type} [Enc α] : Enc (Option α) := ⟨encOf⟩
instance encP : Enc PyData := ⟨fun d => d⟩
/-- one kind of tuple, as long as the list -/
structure TL (α : Type) where
  l : List α
instance encTL {α : Type} [Enc α] : Enc (TL α) := ⟨fun x => PyData.tuple (x.l.map enc)⟩
class EncD (α : Type) [DecidableEq α] extends Enc α where
  wf : α → Prop
  dep : Nat
  lay : ∀ x, wf x → PyData.canLay0 (enc x) = true ∧ (enc x).depth ≤ dep
  eqd : ∀ x y, PyData.eqv (enc x) (enc y) = decide (x = y)
open EncD (wf)
instance encdI : EncD Int where
  enc := PyData.int
  wf _ := True
  dep := 0
  lay _ _ := ⟨rfl, Nat.le_refl _⟩
  eqd x y := by
    show (x == y) = _
    by_cases h : x = y
    · simp [h]
    · simp [h]
instance encdN : EncD Nat where
  enc := fun n => PyData.int (n : Int)
  wf _ := True
  dep := 0
  lay _ _ := ⟨rfl, Nat.le_refl _⟩
  eqd x y := by
    show ((x : Int) == (y : Int)) = _
    by_cases h : x = y
    · simp [h]
    · rw [decide_eq_false h]
      simp only [beq_eq_false_iff_ne, ne_eq]
      omega
instance encdB : EncD Bool where
  enc := PyData.bool
  wf _ := True
  dep := 0
  lay _ _ := ⟨rfl, Nat.le_refl _⟩
  eqd x y := by
    show (x == y) = _
    cases x <;> cases y <;> rfl
instance encdS : EncD Str where
  enc := PyData.str
  wf x := PyData.canLay0 (.str x) = true
  dep := 0
  lay _ h := ⟨h, Nat.le_refl _⟩
  eqd x y := by
    show (x == y) = _
    by_cases h : x = y
    · simp [h]
    · simp [h]
instance encdT {α β : Type} [DecidableEq α] [DecidableEq β] [A : EncD α] [B : EncD β] : EncD (α × β) where
  enc := fun x => PyData.tuple [enc x.1, enc x.2]
  wf x := wf x.1 ∧ wf x.2
  dep := max A.dep B.dep + 1
  lay x h := by
    obtain ⟨a1, a2⟩ := A.lay x.1 h.1
    obtain ⟨b1, b2⟩ := B.lay x.2 h.2
    refine ⟨?_, ?_⟩
    · show (PyData.canLay0 (enc x.1) && (PyData.canLay0 (enc x.2) && true)) = true
      rw [a1, b1]; rfl
    · show max (enc x.1).depth (max (enc x.2).depth 0) + 1 ≤ _
      omega
  eqd x y := by
    show (PyData.eqv (enc x.1) (enc y.1) && (PyData.eqv (enc x.2) (enc y.2) && true)) = _
    rw [A.eqd, B.eqd, Bool.and_true, ← Bool.decide_and]
    exact decide_eq_decide.mpr (Prod.ext_iff).symm
theorem encd_all {α : Type} [DecidableEq α] [A : EncD α] : ∀ l : List α, (∀ x ∈ l, wf x) → PyData.canLayAll0 (l.map enc) = true ∧ PyData.depthAll (l.map enc) ≤ A.dep
  | [], _ => ⟨rfl, Nat.zero_le _⟩
  | x :: l, h => by
    obtain ⟨a1, a2⟩ := A.lay x (h x List.mem_cons_self)
    obtain ⟨b1, b2⟩ := encd_all l fun y hy => h y (List.mem_cons_of_mem _ hy)
    refine ⟨?_, ?_⟩
    · show (PyData.canLay0 (enc x) && PyData.canLayAll0 (l.map enc)) = true
      rw [a1, b1]; rfl
    · show max (enc x).depth (PyData.depthAll (l.map enc)) ≤ _
      omega
theorem encd_eqs {α : Type} [DecidableEq α] [A : EncD α] : ∀ l m : List α, PyData.eqvAll (l.map enc) (m.map enc) = decide (l = m)
  | [], [] => rfl
  | [], y :: m => by rw [decide_eq_false (fun z => by cases z)]; rfl
  | x :: l, [] => by rw [decide_eq_false (fun z => by cases z)]; rfl
  | x :: l, y :: m => by
    show (PyData.eqv (enc x) (enc y) && PyData.eqvAll (l.map enc) (m.map enc)) = _
    rw [A.eqd, encd_eqs l m, ← Bool.decide_and]
    exact decide_eq_decide.mpr ⟨fun h => by rw [h.1, h.2], fun h => by injection h with h1 h2; exact ⟨h1, h2⟩⟩
instance encdL {α : Type} [DecidableEq α] [A : EncD α] : EncD (List α) where
  enc := fun l => PyData.list (l.map enc)
  wf l := ∀ x ∈ l, wf x
  dep := A.dep + 1
  lay l h := by
    obtain ⟨b1, b2⟩ := encd_all l h
    exact ⟨b1, Nat.succ_le_succ b2⟩
  eqd x y := encd_eqs x y
/-! ### evaluation, by values -/
section
variable {P : Pg} {e : Env} {s : Sto} {a b c : E}
end
instance encdOI : EncD (Option Int) where
  enc := encOf
  wf _ := True
  dep := 0
  lay x _ := by cases x <;> exact ⟨rfl, Nat.le_refl _⟩
  eqd x y := by
    cases x with
    | none =>
      cases y with
      | none => rfl
      | some y => rw [decide_eq_false (fun z => by cases z)]; rfl
    | some x =>
      cases y with
      | none => rw [decide_eq_false (fun z => by cases z)]; rfl
      | some y =>
        show (x == y) = _
        by_cases h : x = y
        · subst h; simp
        · rw [decide_eq_false (fun z => h (by injection z))]
          simp [h]
/-! pairs of items -/
end
end G

namespace G
open PySem PySem.Spec PyProof.Rows L2
open Classical
noncomputable section

open Enc (enc)
open EncD (wf)
section
variable {P : Pg} {e : Env} {s : Sto} {a b c : E}
/-! statements -/
end
section
variable {P : Pg} {e : Env} {s : Sto} {a b c : E}
end
section
variable {P : Pg} {e : Env} {s : Sto} {a b c : E}
end
/-! ### own lists, behind the store that was there -/
def lcl {α : Type} [Enc α] (l : List α) : Option Cell := some (.lst ((l.map enc).map D.p))
section
variable {P : Pg} {e : Env} {s : Sto} {a b c : E} {α : Type} [Enc α] {l : List α}
end
/-! reading own lists -/
section
variable {P : Pg} {e : Env} {s : Sto} {a b c : E} {α : Type} [Enc α] {l : List α}
end

end
end G

namespace G
open PySem PySem.Spec PyProof.Rows L2
open Classical
noncomputable section

/-! ### pairs the other way about: an exchange turns their evenness -/
/-! ### clean: each road once -/
/-! ### one walker's end put otherwise -/
end
end G

namespace G
open PySem PySem.Spec PyProof.Rows L2
open Classical
noncomputable section

/-! ### what deeds leave -/
/-! the parts of a deed -/
structure Dd (many : Int) (ls : List (Int × Int)) (ps : List (Nat × Nat)) (ws : List (Str × (Nat × Nat))) (n : Str) (e x : Nat × Nat) (v : Nat) : Prop where
  mem : (n, e) ∈ ws
  e2 : e.2 < 2
  at_ : (atL ls e.1 e.2).toNat = v
  lt : v < ps.length
  gx : ps[v]? = some x
  gd : ps.getD v (0, 0) = x
  x2 : x.2 < 2
  xat : (atL ls x.1 x.2).toNat = v
  lk_ : lk ws n = some e
/-! ### signs behind deeds -/
end
end G

namespace G
open PySem PySem.Spec PyProof.Rows L2
open Classical
noncomputable section

open Enc (enc)
open EncD (wf)
/-- a right town and a right standing -/
def Ok (many : Int) (ls : List (Int × Int)) (ps : List (Nat × Nat)) (ws : List (Str × (Nat × Nat))) : Prop := Tw 8 many ls ∧ Stn 4 many ls ps ws
/-! deeds told as two texts -/
end
end G

namespace G
open PySem PySem.Spec PyProof.Rows L2
open Classical
noncomputable section
/-! ### the second family's draws -/
def bDraw2 : Ss := (.cons (.asg (.tp [5, 6]) (.v 0)) (.cons (.asg (.nm 2) (.bin .mod false (.v 6) (.bi .len false (.v 5)))) (.cons (.asg (.nm 3) (.ix (.v 5) (.v 2))) (.cons (.seti (.v 0) (.k (.int 1)) (.bin .add false (.v 6) (.k (.int 1)))) (.cons (.ifs (.cmp .ge (.v 3) (.bin .pow false (.k (.int 10)) (.k (.int 18)))) (.cons (.seti (.v 5) (.v 2) (.bin .fdiv false (.v 3) (.v 1))) (.cons (.ret (.bin .mod false (.v 3) (.v 1))) .nil)) .nil) (.cons (.asg (.nm 4) (.bin .mod false (.bin .add false (.bin .add false (.bin .mul false (.bin .mod false (.v 3) (.k (.int 2147483629))) (.k (.int 48271))) (.bin .mul false (.bin .mul false (.v 6) (.v 6)) (.k (.int 69621)))) (.k (.int 11))) (.k (.int 2147483647)))) (.cons (.asg (.nm 4) (.bin .mod false (.bin .mul false (.v 4) (.v 4)) (.k (.int 2147483629)))) (.cons (.asg (.nm 4) (.bin .mod false (.bin .mul false (.v 4) (.v 4)) (.k (.int 2147483587)))) (.cons (.ret (.bin .mod false (.v 4) (.v 1))) .nil)))))))))
theorem draw2_ev (P : Pg) {s : Sto} {p c k : Nat} {m : Int} (h : Pu s p c (k + 1)) (hm : 0 < m) (hM : m ≤ 1000000000) : ∃ (r : Int) (s' : Sto),
    exs P bDraw2 [some (.o p), some (.p (.int m)), none, none, none, none, none] s = .rt (.p (.int r)) s' ∧ 0 ≤ r ∧ r < m ∧ Pu s' p c k ∧ Kp p c s s' := by
  obtain ⟨l, t, hp, hc, l0, lz, t0, tz⟩ := h.ex
  obtain ⟨lp1, lc1⟩ := h.lt
  have e1 := asSq_o hp
  have e2 := asSq_o hc
  have lp : (0 : Int) < ((iD l).length : Int) := by
    rw [iD_len]
    cases l with
    | nil => exact absurd rfl l0
    | cons _ _ => simp
  obtain ⟨j, hk, hkl⟩ : ∃ j : Nat, t % ((iD l).length : Int) = (j : Int) ∧ j < l.length := by
    refine ⟨(t % ((iD l).length : Int)).toNat, (Int.toNat_of_nonneg (Int.emod_nonneg _ (by omega))).symm, ?_⟩
    have h1 := Int.emod_lt_of_pos t lp
    have h2 := Int.emod_nonneg t (show ((iD l).length : Int) ≠ 0 by omega)
    rw [iD_len] at h1 h2 ⊢
    omega
  unfold bDraw2
  rw [st_asg (by simp only [ev_v, ev_k, ev_g, ev_tup, ev_lst, ev_bin, ev_neg, ev_nt, ev_cmp, ev_chn, ev_an, ev_orr, ev_ife, ev_ix, ev_sl, ev_rev, ev_call, ev_bi, ev_isi, ev_isx, ev_app, ev_ins, ev_frz, ev_fld, evs_nil, evs_cons, evo_no, evo_so, G.R.bind_ok, rOr_some, vr_s, dInt_i, dBool_b, b_add, b_sub, b_pow18, b_pow9, c_lt, c_le, c_gt, c_ge, c_is, c_isn, List.getElem?_cons_succ, List.getElem?_cons_zero, List.set_cons_succ, List.set_cons_zero, brR_t, brR_f] <;> rfl) (by simp only [bindT, e1]; rfl)]
  rw [st_asg (by simp only [ev_v, ev_k, ev_g, ev_tup, ev_lst, ev_bin, ev_neg, ev_nt, ev_cmp, ev_chn, ev_an, ev_orr, ev_ife, ev_ix, ev_sl, ev_rev, ev_call, ev_bi, ev_isi, ev_isx, ev_app, ev_ins, ev_frz, ev_fld, evs_nil, evs_cons, evo_no, evo_so, G.R.bind_ok, rOr_some, vr_s, dInt_i, dBool_b, b_add, b_sub, b_pow18, b_pow9, c_lt, c_le, c_gt, c_ge, c_is, c_isn, List.getElem?_cons_succ, List.getElem?_cons_zero, List.set_cons_succ, List.set_cons_zero, brR_t, brR_f, l_len false e2, b_mod false lp, hk] <;> rfl) rfl]
  rw [st_asg (by simp only [ev_v, ev_k, ev_g, ev_tup, ev_lst, ev_bin, ev_neg, ev_nt, ev_cmp, ev_chn, ev_an, ev_orr, ev_ife, ev_ix, ev_sl, ev_rev, ev_call, ev_bi, ev_isi, ev_isx, ev_app, ev_ins, ev_frz, ev_fld, evs_nil, evs_cons, evo_no, evo_so, G.R.bind_ok, rOr_some, vr_s, dInt_i, dBool_b, b_add, b_sub, b_pow18, b_pow9, c_lt, c_le, c_gt, c_ge, c_is, c_isn, List.getElem?_cons_succ, List.getElem?_cons_zero, List.set_cons_succ, List.set_cons_zero, brR_t, brR_f, i_ix e2 (atI_nat (iD_get hkl))] <;> rfl) rfl]
  rw [st_seti (by simp only [ev_v, ev_k, ev_g, ev_tup, ev_lst, ev_bin, ev_neg, ev_nt, ev_cmp, ev_chn, ev_an, ev_orr, ev_ife, ev_ix, ev_sl, ev_rev, ev_call, ev_bi, ev_isi, ev_isx, ev_app, ev_ins, ev_frz, ev_fld, evs_nil, evs_cons, evo_no, evo_so, G.R.bind_ok, rOr_some, vr_s, dInt_i, dBool_b, b_add, b_sub, b_pow18, b_pow9, c_lt, c_le, c_gt, c_ge, c_is, c_isn, List.getElem?_cons_succ, List.getElem?_cons_zero, List.set_cons_succ, List.set_cons_zero, brR_t, brR_f] <;> rfl) (by simp only [ev_v, ev_k, ev_g, ev_tup, ev_lst, ev_bin, ev_neg, ev_nt, ev_cmp, ev_chn, ev_an, ev_orr, ev_ife, ev_ix, ev_sl, ev_rev, ev_call, ev_bi, ev_isi, ev_isx, ev_app, ev_ins, ev_frz, ev_fld, evs_nil, evs_cons, evo_no, evo_so, G.R.bind_ok, rOr_some, vr_s, dInt_i, dBool_b, b_add, b_sub, b_pow18, b_pow9, c_lt, c_le, c_gt, c_ge, c_is, c_isn, List.getElem?_cons_succ, List.getElem?_cons_zero, List.set_cons_succ, List.set_cons_zero, brR_t, brR_f] <;> rfl) (by simp only [ev_v, ev_k, ev_g, ev_tup, ev_lst, ev_bin, ev_neg, ev_nt, ev_cmp, ev_chn, ev_an, ev_orr, ev_ife, ev_ix, ev_sl, ev_rev, ev_call, ev_bi, ev_isi, ev_isx, ev_app, ev_ins, ev_frz, ev_fld, evs_nil, evs_cons, evo_no, evo_so, G.R.bind_ok, rOr_some, vr_s, dInt_i, dBool_b, b_add, b_sub, b_pow18, b_pow9, c_lt, c_le, c_gt, c_ge, c_is, c_isn, List.getElem?_cons_succ, List.getElem?_cons_zero, List.set_cons_succ, List.set_cons_zero, brR_t, brR_f] <;> rfl) (s_set hp rfl)]
  generalize l[j] = z
  have hp2 : (s.set p (some (Cell.lst [D.o c, D.p (PyData.int (t + 1))])))[p]? = some (some (.lst [.o c, .p (.int (t + 1))])) := List.getElem?_set_self lp1
  have hc2 : (s.set p (some (Cell.lst [D.o c, D.p (PyData.int (t + 1))])))[c]? = some (some (.lst (iD l))) := by
    rw [List.getElem?_set_ne h.ne]
    exact hc
  by_cases hz : (1000000000000000000 : Int) ≤ z
  · rw [st_ifT (by simp only [ev_v, ev_k, ev_g, ev_tup, ev_lst, ev_bin, ev_neg, ev_nt, ev_cmp, ev_chn, ev_an, ev_orr, ev_ife, ev_ix, ev_sl, ev_rev, ev_call, ev_bi, ev_isi, ev_isx, ev_app, ev_ins, ev_frz, ev_fld, evs_nil, evs_cons, evo_no, evo_so, G.R.bind_ok, rOr_some, vr_s, dInt_i, dBool_b, b_add, b_sub, b_pow18, b_pow9, c_lt, c_le, c_gt, c_ge, c_is, c_isn, List.getElem?_cons_succ, List.getElem?_cons_zero, List.set_cons_succ, List.set_cons_zero, brR_t, brR_f, decide_eq_true hz] <;> rfl)]
    rw [st_seti (by simp only [ev_v, ev_k, ev_g, ev_tup, ev_lst, ev_bin, ev_neg, ev_nt, ev_cmp, ev_chn, ev_an, ev_orr, ev_ife, ev_ix, ev_sl, ev_rev, ev_call, ev_bi, ev_isi, ev_isx, ev_app, ev_ins, ev_frz, ev_fld, evs_nil, evs_cons, evo_no, evo_so, G.R.bind_ok, rOr_some, vr_s, dInt_i, dBool_b, b_add, b_sub, b_pow18, b_pow9, c_lt, c_le, c_gt, c_ge, c_is, c_isn, List.getElem?_cons_succ, List.getElem?_cons_zero, List.set_cons_succ, List.set_cons_zero, brR_t, brR_f, b_fdiv false hm (.inl (show m < 1073741824 by omega))] <;> rfl) (by simp only [ev_v, ev_k, ev_g, ev_tup, ev_lst, ev_bin, ev_neg, ev_nt, ev_cmp, ev_chn, ev_an, ev_orr, ev_ife, ev_ix, ev_sl, ev_rev, ev_call, ev_bi, ev_isi, ev_isx, ev_app, ev_ins, ev_frz, ev_fld, evs_nil, evs_cons, evo_no, evo_so, G.R.bind_ok, rOr_some, vr_s, dInt_i, dBool_b, b_add, b_sub, b_pow18, b_pow9, c_lt, c_le, c_gt, c_ge, c_is, c_isn, List.getElem?_cons_succ, List.getElem?_cons_zero, List.set_cons_succ, List.set_cons_zero, brR_t, brR_f] <;> rfl) (by simp only [ev_v, ev_k, ev_g, ev_tup, ev_lst, ev_bin, ev_neg, ev_nt, ev_cmp, ev_chn, ev_an, ev_orr, ev_ife, ev_ix, ev_sl, ev_rev, ev_call, ev_bi, ev_isi, ev_isx, ev_app, ev_ins, ev_frz, ev_fld, evs_nil, evs_cons, evo_no, evo_so, G.R.bind_ok, rOr_some, vr_s, dInt_i, dBool_b, b_add, b_sub, b_pow18, b_pow9, c_lt, c_le, c_gt, c_ge, c_is, c_isn, List.getElem?_cons_succ, List.getElem?_cons_zero, List.set_cons_succ, List.set_cons_zero, brR_t, brR_f] <;> rfl) (s_set hc2 (ixN_nat (by rw [iD_len]; exact hkl)))]
    rw [st_ret (by simp only [ev_v, ev_k, ev_g, ev_tup, ev_lst, ev_bin, ev_neg, ev_nt, ev_cmp, ev_chn, ev_an, ev_orr, ev_ife, ev_ix, ev_sl, ev_rev, ev_call, ev_bi, ev_isi, ev_isx, ev_app, ev_ins, ev_frz, ev_fld, evs_nil, evs_cons, evo_no, evo_so, G.R.bind_ok, rOr_some, vr_s, dInt_i, dBool_b, b_add, b_sub, b_pow18, b_pow9, c_lt, c_le, c_gt, c_ge, c_is, c_isn, List.getElem?_cons_succ, List.getElem?_cons_zero, List.set_cons_succ, List.set_cons_zero, brR_t, brR_f, b_mod false hm] <;> rfl)]
    rw [RS.nxt_rt, iD_set]
    refine ⟨z % m, _, rfl, Int.emod_nonneg _ (by omega), Int.emod_lt_of_pos _ hm, ⟨h.ne, l.set j (z / m), t + 1, ?_, ?_, ?_, ?_, by omega, by omega⟩, ?_, fun n n1 n2 => ?_⟩
    · rw [List.getElem?_set_ne (Ne.symm h.ne)]
      exact hp2
    · exact List.getElem?_set_self (by rw [List.length_set]; exact lc1)
    · intro q
      have := congrArg List.length q
      rw [List.length_set] at this
      exact l0 (List.length_eq_zero_iff.mp this)
    · rw [List.length_set]
      exact lz
    · rw [List.length_set, List.length_set]
    · rw [List.getElem?_set_ne (Ne.symm n2), List.getElem?_set_ne (Ne.symm n1)]
  · rw [st_ifF (by simp only [ev_v, ev_k, ev_g, ev_tup, ev_lst, ev_bin, ev_neg, ev_nt, ev_cmp, ev_chn, ev_an, ev_orr, ev_ife, ev_ix, ev_sl, ev_rev, ev_call, ev_bi, ev_isi, ev_isx, ev_app, ev_ins, ev_frz, ev_fld, evs_nil, evs_cons, evo_no, evo_so, G.R.bind_ok, rOr_some, vr_s, dInt_i, dBool_b, b_add, b_sub, b_pow18, b_pow9, c_lt, c_le, c_gt, c_ge, c_is, c_isn, List.getElem?_cons_succ, List.getElem?_cons_zero, List.set_cons_succ, List.set_cons_zero, brR_t, brR_f, decide_eq_false hz] <;> rfl), st_nil, RS.nxt_nx]
    have a1 := Int.emod_nonneg z (show (2147483629 : Int) ≠ 0 by decide)
    have a2 := Int.emod_lt_of_pos z (show (0 : Int) < 2147483629 by decide)
    rw [st_asg (by simp only [ev_v, ev_k, ev_g, ev_tup, ev_lst, ev_bin, ev_neg, ev_nt, ev_cmp, ev_chn, ev_an, ev_orr, ev_ife, ev_ix, ev_sl, ev_rev, ev_call, ev_bi, ev_isi, ev_isx, ev_app, ev_ins, ev_frz, ev_fld, evs_nil, evs_cons, evo_no, evo_so, G.R.bind_ok, rOr_some, vr_s, dInt_i, dBool_b, b_add, b_sub, b_pow18, b_pow9, c_lt, c_le, c_gt, c_ge, c_is, c_isn, List.getElem?_cons_succ, List.getElem?_cons_zero, List.set_cons_succ, List.set_cons_zero, brR_t, brR_f, b_mod false (show (0 : Int) < 2147483629 by decide), b_mul false (small_mul a1 (by omega)), b_mul false (small_mul t0 (show t < 18446744073709551616 by omega)), b_mul false (i := t * t) (j := 69621) (.inl (.inr ⟨by decide, by decide⟩)), b_mod false (show (0 : Int) < 2147483647 by decide)] <;> rfl) rfl]
    generalize (z % 2147483629 * 48271 + t * t * 69621 + 11) = y
    have b1 := Int.emod_nonneg y (show (2147483647 : Int) ≠ 0 by decide)
    have b2 := Int.emod_lt_of_pos y (show (0 : Int) < 2147483647 by decide)
    generalize y % 2147483647 = x at b1 b2 ⊢
    rw [st_asg (by simp only [ev_v, ev_k, ev_g, ev_tup, ev_lst, ev_bin, ev_neg, ev_nt, ev_cmp, ev_chn, ev_an, ev_orr, ev_ife, ev_ix, ev_sl, ev_rev, ev_call, ev_bi, ev_isi, ev_isx, ev_app, ev_ins, ev_frz, ev_fld, evs_nil, evs_cons, evo_no, evo_so, G.R.bind_ok, rOr_some, vr_s, dInt_i, dBool_b, b_add, b_sub, b_pow18, b_pow9, c_lt, c_le, c_gt, c_ge, c_is, c_isn, List.getElem?_cons_succ, List.getElem?_cons_zero, List.set_cons_succ, List.set_cons_zero, brR_t, brR_f, b_mul false (small_mul b1 (show x < 18446744073709551616 by omega)), b_mod false (show (0 : Int) < 2147483629 by decide)] <;> rfl) rfl]
    have c1 := Int.emod_nonneg (x * x) (show (2147483629 : Int) ≠ 0 by decide)
    have c2 := Int.emod_lt_of_pos (x * x) (show (0 : Int) < 2147483629 by decide)
    generalize (x * x) % 2147483629 = w at c1 c2 ⊢
    rw [st_asg (by simp only [ev_v, ev_k, ev_g, ev_tup, ev_lst, ev_bin, ev_neg, ev_nt, ev_cmp, ev_chn, ev_an, ev_orr, ev_ife, ev_ix, ev_sl, ev_rev, ev_call, ev_bi, ev_isi, ev_isx, ev_app, ev_ins, ev_frz, ev_fld, evs_nil, evs_cons, evo_no, evo_so, G.R.bind_ok, rOr_some, vr_s, dInt_i, dBool_b, b_add, b_sub, b_pow18, b_pow9, c_lt, c_le, c_gt, c_ge, c_is, c_isn, List.getElem?_cons_succ, List.getElem?_cons_zero, List.set_cons_succ, List.set_cons_zero, brR_t, brR_f, b_mul false (small_mul c1 (show w < 18446744073709551616 by omega)), b_mod false (show (0 : Int) < 2147483587 by decide)] <;> rfl) rfl]
    rw [st_ret (by simp only [ev_v, ev_k, ev_g, ev_tup, ev_lst, ev_bin, ev_neg, ev_nt, ev_cmp, ev_chn, ev_an, ev_orr, ev_ife, ev_ix, ev_sl, ev_rev, ev_call, ev_bi, ev_isi, ev_isx, ev_app, ev_ins, ev_frz, ev_fld, evs_nil, evs_cons, evo_no, evo_so, G.R.bind_ok, rOr_some, vr_s, dInt_i, dBool_b, b_add, b_sub, b_pow18, b_pow9, c_lt, c_le, c_gt, c_ge, c_is, c_isn, List.getElem?_cons_succ, List.getElem?_cons_zero, List.set_cons_succ, List.set_cons_zero, brR_t, brR_f, b_mod false hm] <;> rfl)]
    refine ⟨_, _, rfl, Int.emod_nonneg _ (by omega), Int.emod_lt_of_pos _ hm, ⟨h.ne, l, t + 1, hp2, hc2, l0, lz, by omega, by omega⟩, ?_, fun n n1 n2 => ?_⟩
    · rw [List.length_set]
    · exact List.getElem?_set_ne (Ne.symm n1)
theorem draw2_run (P : Pg) : DrawF (fun args s => runB P ⟨2, 7, bDraw2, true⟩ args s) := by
  intro s p c k m h hm hM
  obtain ⟨r, s', e, h1, h2, h3, h4⟩ := draw2_ev P h hm hM
  refine ⟨r, s', ?_, h1, h2, h3, h4⟩
  show runB P ⟨2, 7, bDraw2, true⟩ [.o p, .p (.int m)] s = _
  unfold runB
  have e' : exs P bDraw2 (([.o p, .p (.int m)] : List D).map some ++ List.replicate (7 - ([.o p, .p (.int m)] : List D).length) none) s = .rt (.p (.int r)) s' := e
  rw [e']
  exact finO_p rfl (cut_kp h3 h4)

end
end G

namespace G
open PySem PySem.Spec PyProof.Rows L2
open Classical
noncomputable section

end
end G

namespace G
open PySem PySem.Spec PyProof.Rows L2
open Classical
noncomputable section
end
end G

namespace G
open PySem PySem.Spec PyProof.Rows L2
open Classical
noncomputable section
end
end G

namespace G
open PySem PySem.Spec PyProof.Rows L2
open Classical
open Enc (enc)
open EncD (wf)
noncomputable section
end
end G

namespace G
open PySem PySem.Spec PyProof.Rows L2
open Classical
noncomputable section

open Enc (enc)
open EncD (wf)
/-! ### what stands where -/
/-- these cells stand there -/
def At (s : Sto) (L : List (Nat × Option Cell)) : Prop := (L.map (·.1)).Nodup ∧ ∀ x ∈ L, s[x.1]? = some x.2
/-- the cells below stay but for some -/
def Fr (A : List Nat) (s s' : Sto) : Prop := s.length ≤ s'.length ∧ ∀ n, n < s.length → n ∉ A → s'[n]? = s[n]?
/-- n may be changed: one of A, or new since s -/
def Nw (A : List Nat) (s : Sto) (n : Nat) : Prop := n ∈ A ∨ s.length ≤ n
theorem Fr.trans {A : List Nat} {s s1 s2 : Sto} (a : Fr A s s1) (b : Fr A s1 s2) : Fr A s s2 := ⟨Nat.le_trans a.1 b.1, fun n h k => (b.2 n (Nat.lt_of_lt_of_le h a.1) k).trans (a.2 n h k)⟩
theorem Fr.of {A B : List Nat} {s s1 s2 : Sto} (a : Fr A s s1) (b : Fr B s1 s2) (h : ∀ n ∈ B, Nw A s n) : Fr A s s2 := ⟨Nat.le_trans a.1 b.1, fun n hn k => (b.2 n (Nat.lt_of_lt_of_le hn a.1) fun z => by
  rcases h n z with q | q
  · exact k q
  · omega).trans (a.2 n hn k)⟩
theorem Fr.set {A : List Nat} {s s1 : Sto} {n : Nat} (a : Fr A s s1) (h : Nw A s n) (x : Option Cell) : Fr A s (s1.set n x) := ⟨by rw [List.length_set]; exact a.1, fun m hm k => by
  rw [List.getElem?_set_ne fun z => ?_]
  · exact a.2 m hm k
  · subst z
    rcases h with q | q
    · exact k q
    · omega⟩
theorem Fr.app {A : List Nat} {s s1 : Sto} (a : Fr A s s1) (x : List (Option Cell)) : Fr A s (s1 ++ x) := ⟨by rw [List.length_append]; have := a.1; omega, fun m hm k => by
  rw [List.getElem?_append_left (Nat.lt_of_lt_of_le hm a.1)]
  exact a.2 m hm k⟩
theorem At.get {s : Sto} {L : List (Nat × Option Cell)} (h : At s L) (i : Nat) {n : Nat} {x : Option Cell} (hi : L[i]? = some (n, x) := by rfl) : s[n]? = some x := h.2 (n, x) (List.mem_of_getElem? hi)
theorem At.lt {s : Sto} {L : List (Nat × Option Cell)} (h : At s L) (i : Nat) {n : Nat} {x : Option Cell} (hi : L[i]? = some (n, x) := by rfl) : n < s.length := (List.getElem?_eq_some_iff.mp (h.get i hi)).1
theorem map_set_fst {α β : Type} (L : List (α × β)) (i : Nat) {n : α} {x : β} (hi : L[i]? = some (n, x)) (y : β) : (L.set i (n, y)).map (·.1) = L.map (·.1) := by
  rw [List.map_set]
  apply List.ext_getElem?
  intro j
  by_cases h : i = j
  · subst h
    rw [List.getElem?_set_self (by rw [List.length_map]; exact (List.getElem?_eq_some_iff.mp hi).1), List.getElem?_map, hi]
    rfl
  · rw [List.getElem?_set_ne h]
theorem At.set {s : Sto} {L : List (Nat × Option Cell)} (h : At s L) (i : Nat) {n : Nat} {x : Option Cell} (hi : L[i]? = some (n, x)) (y : Option Cell) : At (s.set n y) (L.set i (n, y)) := by
  refine ⟨by rw [map_set_fst L i hi]; exact h.1, fun z hz => ?_⟩
  obtain ⟨j, hj, e⟩ := List.mem_iff_getElem.mp hz
  have hj' : j < L.length := by rw [List.length_set] at hj; exact hj
  by_cases q : i = j
  · subst q
    rw [List.getElem_set_self] at e
    rw [← e]
    exact List.getElem?_set_self (h.lt i hi)
  · rw [List.getElem_set_ne q] at e
    have hn : z.1 ≠ n := fun w => by
      have i' := (List.getElem?_eq_some_iff.mp hi)
      have nd := h.1
      have := (List.getElem_inj (h₀ := by rw [List.length_map]; exact i'.1) (h₁ := by rw [List.length_map]; exact hj') nd).mp (by rw [List.getElem_map, List.getElem_map, i'.2, e, w])
      exact q this
    rw [List.getElem?_set_ne (Ne.symm hn)]
    exact h.2 z (by rw [← e]; exact List.getElem_mem hj')
/-! dicts with number keys -/
section
variable {P : Pg} {e : Env} {s : Sto} {a b c : E} {β : Type} [Enc β] {l : List (Nat × β)}
end
/-! one's own objects: fields -/
/-! changes, in the store that stands -/
section
variable {P : Pg} {e : Env} {s s0 : Sto} {a b x : E} {A : List Nat} {L : List (Nat × Option Cell)} {n : Nat} {α : Type} [Enc α]
end

end
end G

namespace G
open PySem PySem.Spec PyProof.Rows L2
open Classical
noncomputable section

open Enc (enc)
open EncD (wf)
/-! ### ends of defs that change what was handed in -/
/-! while -/
inductive Rch {σ : Type} (q : σ → Bool) (f : σ → σ) (s0 : σ) : σ → Prop
  | z : Rch q f s0 s0
  | s {st : σ} : Rch q f s0 st → q st = true → Rch q f s0 (f st)
section
variable {P : Pg} {e : Env} {s : Sto} {a b c : E}
end
/-! comprehensions over an own list that stays -/
section
variable {P : Pg} {e : Env} {s s0 s1 : Sto} {a b x : E} {A : List Nat} {L : List (Nat × Option Cell)} {n : Nat} {c : Option Cell}
end
/-! what is held, as a dict -/
/-! own lists handed out -/
/-! while, its first round apart -/
end
end G

namespace G
open PySem PySem.Spec PyProof.Rows L2
open Classical
open Enc (enc)
open EncD (wf)
noncomputable section
end
end G

namespace G
open PySem PySem.Spec PyProof.Rows L2
open Classical
noncomputable section

open Enc (enc)
open EncD (wf)
/-! ### the core, laid anew and asked -/
end
end G

namespace G
open PySem PySem.Spec PyProof.Rows L2
open Classical
open Enc (enc)
open EncD (wf)
noncomputable section

/-! ### more lemmas for defs with cells on the way -/
/-! ### the law's own look at what is held -/
end
end G

namespace G
open PySem PySem.Spec PyProof.Rows L2
open Classical
open Enc (enc)
open EncD (wf)
noncomputable section
end
end G

namespace G
open PySem PySem.Spec PyProof.Rows L2
open Classical
noncomputable section

open Enc (enc)
open EncD (wf)
/-! ### the law's heaps are the heaps -/
end
end G

namespace G
open PySem PySem.Spec PyProof.Rows L2
open Classical
open Enc (enc)
open EncD (wf)
noncomputable section
end
end G

namespace G
open PySem PySem.Spec PyProof.Rows L2
open Classical
noncomputable section

open Enc (enc)
open EncD (wf)
/-! ### stripping: the plain law -/
/-! an end for each lender -/
/-! one way of going on -/
end
end G

namespace G
open PySem PySem.Spec PyProof.Rows L2
open Classical
noncomputable section

open Enc (enc)
open EncD (wf)
/-! ### stripping: what is asked -/
def ct (l : (List (Nat × Nat))) : Nat := (l.filter fun x => decide (0 < x.2)).length
structure Gd (ls : List (Int × Int)) (K : List Nat) (l : (List (Nat × Nat))) (g : (List (Nat × (Nat × Nat)))) : Prop where
  ks : l.map (·.1) = K
  val : ∀ x ∈ l, x.2 ≤ 12
  sum : g.length + ct l ≤ 12
end
end G

namespace G
open PySem PySem.Spec PyProof.Rows L2
open Classical
noncomputable section

open Enc (enc)
open EncD (wf)
end
end G

namespace G
open PySem PySem.Spec PyProof.Rows L2
open Classical
noncomputable section

open Enc (enc)
open EncD (wf)
/-! a pair of own things and plain data, handed out -/
/-! the keys of a dict, sorted as they stand -/
end
end G

namespace G
open PySem PySem.Spec PyProof.Rows L2
open Classical
open Enc (enc)
open EncD (wf)
noncomputable section
end
end G

namespace G
open PySem PySem.Spec PyProof.Rows L2
open Classical
noncomputable section

open Enc (enc)
open EncD (wf)
/-! the core at its end -/
/-! sizes -/
end
end G

namespace G
open PySem PySem.Spec PyProof.Rows L2
open Classical
noncomputable section

open Enc (enc)
open EncD (wf)
end
end G

namespace G
open PySem PySem.Spec PyProof.Rows L2
open Classical
open Enc (enc)
open EncD (wf)
noncomputable section

/-! ### where a value stands, the least one -/
/-! ### where posts lead: for k10 and k14 -/
/-- the place to which a post leads -/
def nx (ls : List (Int × Int)) (ps : List (Nat × Nat)) (v : Nat) : Nat := (atL ls (ps.getD v (0, 0)).1 (1 - (ps.getD v (0, 0)).2)).toNat
end
end G

namespace G
open PySem PySem.Spec PyProof.Rows L2
open Classical
open Enc (enc)
open EncD (wf)
noncomputable section
end
end G

namespace G
open PySem PySem.Spec PyProof.Rows L2
open Classical
noncomputable section

open Enc (enc)
open EncD (wf)
/-! ### paths end -/
structure Pth (n : Nat) (st : Nat × List Nat) : Prop where
  lt : st.1 < n
  al : ∀ v ∈ st.2, v < n
  nd : st.2.Nodup
theorem Pth.len {n : Nat} {st : Nat × List Nat} (h : Pth n st) : st.2.length ≤ n := by
  have := nodup_le st.2 (List.range n) h.nd fun v hv => List.mem_range.mpr (h.al v hv)
  rw [List.length_range] at this
  exact this
/-! basins -/
end
end G

namespace G
open PySem PySem.Spec PyProof.Rows L2
open Classical
noncomputable section

open Enc (enc)
open EncD (wf)
/-! ### k14: who refuses -/
def b2 (c : Nat) (r : Ss) : Ss := .cons (.ex (.call c (.cons (.v 0) (.cons (.v 1) .nil)))) r
/-- a def of two: what it refuses, and that it refuses nothing else -/
structure As2 (t u : Nat) (Φ : List D → Sto → R D) : Prop where
  ok : ∀ {s : Sto} (many : Int) (ls : List (Int × Int)) (ps : List (Nat × Nat)) (ws : List (Str × (Nat × Nat))), Ok many ls ps ws → ∃ d s', Φ [.p (enc ((many, ls) : Int × List (Int × Int))), .p (enc ((ps, ws) : List (Nat × Nat) × List (Str × (Nat × Nat))))] s = .ok d s' ∧ Fr [] s s'
  rf : RfF t u (fun a b s => Φ [a, b] s)
structure As3 (t u m : Nat) (Φ : List D → Sto → R D) : Prop where
  ok : ∀ {s : Sto} (many : Int) (ls : List (Int × Int)) (ps : List (Nat × Nat)) (ws : List (Str × (Nat × Nat))) (place : Nat), Ok many ls ps ws → (place : Int) < many → ∃ d s', Φ [.p (enc ((many, ls) : Int × List (Int × Int))), .p (enc ((ps, ws) : List (Nat × Nat) × List (Str × (Nat × Nat)))), .p (enc place)] s = .ok d s' ∧ Fr [] s s'
  rf : ∀ y : PyData, RfF t u (fun a b s => Φ [a, b, .p y] s)
  pl : ∀ {s : Sto} (many : Int) (ls : List (Int × Int)) (ps : List (Nat × Nat)) (ws : List (Str × (Nat × Nat))) (y : PyData), Ok many ls ps ws → noD y = true → plOk many y = false → Φ [.p (enc ((many, ls) : Int × List (Int × Int))), .p (enc ((ps, ws) : List (Nat × Nat) × List (Str × (Nat × Nat)))), .p y] s = .exc ⟨m, none⟩ s
end
end G

namespace G
open PySem PySem.Spec PyProof.Rows L2
open Classical
open Enc (enc)
open EncD (wf)
noncomputable section
section
variable {P : Pg} {e : Env} {s s1 : Sto} {c : Nat} {es : Es} {r : Ss} {w j : Int}
end
structure AkF (t u m : Nat) (Φ : List D → Sto → R D) : Prop where
  ok : ∀ {s : Sto} (w : Nat) (many : Int) (ls : List (Int × Int)) (ps : List (Nat × Nat)) (ws : List (Str × (Nat × Nat))) (place : Nat), w < 7 → Ok many ls ps ws → (place : Int) < many → Φ [.p (.int (w : Int)), .p (enc ((many, ls) : Int × List (Int × Int))), .p (enc ((ps, ws) : List (Nat × Nat) × List (Str × (Nat × Nat)))), .p (enc place)] s = .ok (.p .none) s
  town : ∀ {s : Sto} (w : Nat) {x q y : PyData}, w < 7 → fi 4 x = true → twrong x ≠ .none → Φ [.p (.int (w : Int)), .p x, .p q, .p y] s = .exc ⟨t, some (.p (twrong x))⟩ s
  st : ∀ {s : Sto} (w : Nat) {many : Int} {ls : List (Int × Int)} {q y : PyData}, w < 7 → Tw 8 many ls → fi 4 q = true → swrong many ls q ≠ .none → Φ [.p (.int (w : Int)), .p (townP many ls), .p q, .p y] s = .exc ⟨u, some (.p (swrong many ls q))⟩ s
  pl : ∀ {s : Sto} (many : Int) (ls : List (Int × Int)) (ps : List (Nat × Nat)) (ws : List (Str × (Nat × Nat))) (y : PyData), Ok many ls ps ws → noD y = true → plOk many y = false → Φ [.p (.int 6), .p (enc ((many, ls) : Int × List (Int × Int))), .p (enc ((ps, ws) : List (Nat × Nat) × List (Str × (Nat × Nat)))), .p y] s = .exc ⟨m, none⟩ s
end
end G

namespace G
open PySem PySem.Spec PyProof.Rows L2
open Classical
noncomputable section

open Enc (enc)
open EncD (wf)
end
end G

namespace G
open PySem PySem.Spec PyProof.Rows L2
open Classical
noncomputable section

open Enc (enc)
open EncD (wf)
def Sb12 (P : Pg) : Prop := ∀ c, c < 12 → ∀ k, k < 12 → P.sb c k = some (decide (c = k) || decide (k = 0))
structure MkF (Φ : List D → Sto → R D) : Prop where
  non : ∀ {s : Sto}, Φ [.p .none] s = .ok (.o (s.length + 0)) (s ++ [lcl ([] : List Str)])
  town : ∀ {s : Sto} {n : Nat} {pl : Option D}, s[n]? = some (some (.exn 11 pl)) → Φ [.o n] s = .ok (.o (s.length + 0)) (s ++ [lcl (["town"] : List Str)])
  st : ∀ {s : Sto} {n : Nat} {pl : Option D}, s[n]? = some (some (.exn 10 pl)) → Φ [.o n] s = .ok (.o (s.length + 0)) (s ++ [lcl (["standing"] : List Str)])
  place : ∀ {s : Sto} {n : Nat} {pl : Option D}, s[n]? = some (some (.exn 7 pl)) → Φ [.o n] s = .ok (.o (s.length + 0)) (s ++ [lcl (["place"] : List Str)])
end
end G

namespace G
open PySem PySem.Spec PyProof.Rows L2
open Classical
open Enc (enc)
open EncD (wf)
noncomputable section

/-! ### things of several kinds -/
section
variable {P : Pg} {e : Env} {s : Sto} {a b c : E} {α : Type} [Enc α] {l m : List α}
end
end
end G

namespace G
open PySem PySem.Spec PyProof.Rows L2
open Classical
noncomputable section

open Enc (enc)
open EncD (wf)
/-! ### what keeps a thing from being a town, a standing -/
end
end G

namespace G
open PySem PySem.Spec PyProof.Rows L2
open Classical
noncomputable section

open Enc (enc)
open EncD (wf)
/-! sizes -/
/-! posts put elsewhere -/
end
end G

namespace G
open PySem PySem.Spec PyProof.Rows L2
open Classical
noncomputable section

open Enc (enc)
open EncD (wf)
structure Rk14 (Φ : List D → Sto → R D) : Prop where
  ok : ∀ {s : Sto} (w : Nat) (many : Int) (ls : List (Int × Int)) (ps : List (Nat × Nat)) (ws : List (Str × (Nat × Nat))) (place : Nat), w < 7 → Ok many ls ps ws → (place : Int) < many → Φ [.p (.int (w : Int)), .p (enc ((many, ls) : Int × List (Int × Int))), .p (enc ((ps, ws) : List (Nat × Nat) × List (Str × (Nat × Nat)))), .p (enc place)] s = .ok (.p (.list [])) s
  town : ∀ {s : Sto} (w : Nat) {x q y : PyData}, w < 7 → fi 4 x = true → twrong x ≠ .none → Φ [.p (.int (w : Int)), .p x, .p q, .p y] s = .ok (.p (.list [.str "town", twrong x])) s
  st : ∀ {s : Sto} (w : Nat) {many : Int} {ls : List (Int × Int)} {q y : PyData}, w < 7 → Tw 8 many ls → fi 4 q = true → swrong many ls q ≠ .none → Φ [.p (.int (w : Int)), .p (townP many ls), .p q, .p y] s = .ok (.p (.list [.str "standing", swrong many ls q])) s
  pl : ∀ {s : Sto} (many : Int) (ls : List (Int × Int)) (ps : List (Nat × Nat)) (ws : List (Str × (Nat × Nat))) (y : PyData), Ok many ls ps ws → noD y = true → plOk many y = false → Φ [.p (.int 6), .p (enc ((many, ls) : Int × List (Int × Int))), .p (enc ((ps, ws) : List (Nat × Nat) × List (Str × (Nat × Nat)))), .p y] s = .ok (.p (.list [.str "place"])) s
end
end G

namespace G
open PySem PySem.Spec PyProof.Rows L2
open Classical
open Enc (enc)
open EncD (wf)
noncomputable section
def b_l_thing (c_l_draw : Nat) : Ss := (.cons (.asg (.nm 1) (.call c_l_draw (.cons (.v 0) (.cons (.k (.int 20)) .nil)))) (.cons (.asg (.nm 2) (.lst false (.cons (.tup (.cons (.k (.str "row")) .nil)) (.cons (.tup (.cons (.k (.str "deed")) (.cons (.v 1) .nil))) (.cons (.tup (.cons (.k (.str "standing")) .nil)) (.cons (.tup (.cons (.k (.str "posts")) .nil)) (.cons (.tup (.cons (.k (.str "post")) (.cons (.v 1) .nil))) (.cons (.tup (.cons (.k (.str "walkers")) .nil)) (.cons (.tup (.cons (.k (.str "walker")) (.cons (.v 1) .nil))) .nil))))))))) (.cons (.asg (.nm 2) (.bin .add false (.v 2) (.lst false (.cons (.tup (.cons (.k (.str "town")) .nil)) (.cons (.tup (.cons (.k (.str "bare")) (.cons (.v 1) .nil))) .nil))))) (.cons (.asg (.nm 2) (.bin .add false (.v 2) (.lst false (.cons (.k .none) (.cons (.k (.bool true)) (.cons (.k (.int 0)) (.cons (.bin .pow false (.k (.int 10)) (.k (.int 30))) (.cons (.k (.str "")) (.cons (.k (.str "row")) (.cons (.tup .nil) (.cons (.lst false .nil) (.cons (.tup (.cons (.k .none) .nil)) (.cons (.tup (.cons (.v 1) (.cons (.v 1) .nil))) (.cons (.lst false (.cons (.k (.str "deed")) (.cons (.v 1) .nil))) (.cons (.tup (.cons (.k (.str "deed")) (.cons (.v 1) (.cons (.lst false (.cons (.v 1) .nil)) .nil)))) .nil))))))))))))))) (.cons (.ret (.ix (.v 2) (.call c_l_draw (.cons (.v 0) (.cons (.k (.int 21)) .nil))))) .nil)))))
def b_l_marks : Ss := (.cons (.asg (.nm 1) (.lst false (.cons (.isx (.v 0) (some 1)) (.cons (.isx (.v 0) (some 2)) (.cons (.isx (.v 0) (some 3)) .nil))))) (.cons (.asg (.nm 1) (.bin .add false (.v 1) (.lst false (.cons (.isx (.v 0) (some 4)) (.cons (.isx (.v 0) (some 5)) (.cons (.isx (.v 0) (some 6)) .nil)))))) (.cons (.asg (.nm 1) (.bin .add false (.v 1) (.lst false (.cons (.isx (.v 0) (some 7)) (.cons (.isx (.v 0) (some 8)) (.cons (.isx (.v 0) (some 9)) .nil)))))) (.cons (.asg (.nm 1) (.bin .add false (.v 1) (.lst false (.cons (.isx (.v 0) (some 10)) (.cons (.isx (.v 0) (some 11)) .nil))))) (.cons (.ret (.lc false (.v 2) [2] (.nm 2) (.rng (.k (.int 11))) (.so (.ix (.v 1) (.v 2))))) .nil)))))
def b_l_bare : Ss := (.cons (.ifs (.cmp .eq (.v 0) (.k (.int 0))) (.cons (.raise0 1) .nil) .nil) (.cons (.ifs (.cmp .eq (.v 0) (.k (.int 1))) (.cons (.raise0 2) .nil) .nil) (.cons (.ifs (.cmp .eq (.v 0) (.k (.int 2))) (.cons (.raise0 3) .nil) .nil) (.cons (.ifs (.cmp .eq (.v 0) (.k (.int 3))) (.cons (.raise0 4) .nil) .nil) (.cons (.ifs (.cmp .eq (.v 0) (.k (.int 4))) (.cons (.raise0 5) .nil) .nil) (.cons (.ifs (.cmp .eq (.v 0) (.k (.int 5))) (.cons (.raise0 6) .nil) .nil) (.cons (.ifs (.cmp .eq (.v 0) (.k (.int 6))) (.cons (.raise0 7) .nil) .nil) (.cons (.ifs (.cmp .eq (.v 0) (.k (.int 7))) (.cons (.raise0 8) .nil) .nil) .nil))))))))
def b_l_texted : Ss := (.cons (.ifs (.cmp .eq (.v 0) (.k (.int 0))) (.cons (.raiseT 1 (.v 1)) .nil) .nil) (.cons (.ifs (.cmp .eq (.v 0) (.k (.int 1))) (.cons (.raiseT 2 (.v 1)) .nil) .nil) (.cons (.ifs (.cmp .eq (.v 0) (.k (.int 2))) (.cons (.raiseT 3 (.v 1)) .nil) .nil) (.cons (.ifs (.cmp .eq (.v 0) (.k (.int 3))) (.cons (.raiseT 4 (.v 1)) .nil) .nil) (.cons (.ifs (.cmp .eq (.v 0) (.k (.int 4))) (.cons (.raiseT 5 (.v 1)) .nil) .nil) (.cons (.ifs (.cmp .eq (.v 0) (.k (.int 5))) (.cons (.raiseT 6 (.v 1)) .nil) .nil) (.cons (.ifs (.cmp .eq (.v 0) (.k (.int 6))) (.cons (.raiseT 7 (.v 1)) .nil) .nil) (.cons (.ifs (.cmp .eq (.v 0) (.k (.int 7))) (.cons (.raiseT 8 (.v 1)) .nil) .nil) .nil))))))))
def b_l_valued : Ss := (.cons (.ifs (.an (.cmp .eq (.v 0) (.k (.int 8))) (.cmp .eq (.v 1) (.k (.int 0)))) (.cons (.raiseV 9 0 (.v 2)) .nil) .nil) (.cons (.ifs (.an (.cmp .eq (.v 0) (.k (.int 9))) (.cmp .eq (.v 1) (.k (.int 0)))) (.cons (.raiseV 10 0 (.v 2)) .nil) .nil) (.cons (.ifs (.an (.cmp .eq (.v 0) (.k (.int 10))) (.cmp .eq (.v 1) (.k (.int 0)))) (.cons (.raiseV 11 0 (.v 2)) .nil) .nil) (.cons (.ifs (.cmp .eq (.v 0) (.k (.int 8))) (.cons (.raiseK 9 0 (.v 2)) .nil) .nil) (.cons (.ifs (.cmp .eq (.v 0) (.k (.int 9))) (.cons (.raiseK 10 0 (.v 2)) .nil) .nil) (.cons (.ifs (.cmp .eq (.v 0) (.k (.int 10))) (.cons (.raiseK 11 0 (.v 2)) .nil) .nil) .nil))))))
def b_l_caught (c_l_valued c_l_bare c_l_texted : Nat) : Ss := (.cons (.asg (.nm 3) (.k .none)) (.cons (.tryC (.cons (.ifs (.cmp .gt (.v 0) (.k (.int 7))) (.cons (.ex (.call c_l_valued (.cons (.v 0) (.cons (.v 1) (.cons (.v 2) .nil))))) .nil) .nil) (.cons (.ifs (.cmp .eq (.v 1) (.k (.int 0))) (.cons (.ex (.call c_l_bare (.cons (.v 0) .nil))) .nil) .nil) (.cons (.ex (.call c_l_texted (.cons (.v 0) (.cons (.bi .str false (.v 2)) .nil)))) .nil))) 0 4 3) (.cons (.ret (.v 3)) .nil)))
def b_law (c_l_purse c_l_thing c_l_caught c_l_marks : Nat) : Ss := (.cons (.asg (.nm 1) (.call c_l_purse (.cons (.v 0) .nil))) (.cons (.asg (.nm 2) (.lst true .nil)) (.cons (.for_ (.nm 3) (.seq (.bin .mul false (.lst false (.cons (.k (.int 0)) (.cons (.k (.int 1)) .nil))) (.k (.int 4)))) (.cons (.for_ (.nm 4) (.rng (.k (.int 11))) (.cons (.asg (.nm 5) (.call c_l_thing (.cons (.v 1) .nil))) (.cons (.asg (.nm 6) (.call c_l_caught (.cons (.v 4) (.cons (.v 3) (.cons (.v 5) .nil))))) (.cons (.ifs (.orr (.cmp .ne (.call c_l_marks (.cons (.v 6) .nil)) (.lst false (.cons (.v 4) .nil))) (.nt (.isx (.v 6) none))) (.cons (.ret (.k (.bool false))) .nil) .nil) (.cons (.ifs (.cmp .gt (.v 4) (.k (.int 7))) (.cons (.ex (.app (.v 2) (.tup (.cons (.v 6) (.cons (.v 5) .nil))))) .nil) .nil) .nil))))) .nil)) (.cons (.ret (.cmp .eq (.lc false (.v 5) [6, 5] (.tp [6, 5]) (.seq (.v 2)) (.so (.cmp .ne (.bi .repr false (.fld (.v 6) "wrong")) (.bi .repr false (.v 5))))) (.lst false .nil))) .nil))))
theorem V_pow30 {P : Pg} {e : Env} {s : Sto} : ev P (.bin .pow false (.k (.int 10)) (.k (.int 30))) e s = .ok (.p (.int 1000000000000000000000000000000)) s := by
  rw [ev_bin, V_k, R.bind_ok, V_k, R.bind_ok]
  exact (b_pow false (by decide)).trans (by rfl)
def th1 (r : Int) : List PyData := [(.tuple [(.str "row")]), (.tuple [(.str "deed"), (.int r)]), (.tuple [(.str "standing")]), (.tuple [(.str "posts")]), (.tuple [(.str "post"), (.int r)]), (.tuple [(.str "walkers")]), (.tuple [(.str "walker"), (.int r)])]
def th2 (r : Int) : List PyData := [(.tuple [(.str "town")]), (.tuple [(.str "bare"), (.int r)])]
def th3 (r : Int) : List PyData := [.none, (.bool true), (.int 0), (.int 1000000000000000000000000000000), (.str ""), (.str "row"), (.tuple []), (.list []), (.tuple [.none]), (.tuple [(.int r), (.int r)]), (.list [(.str "deed"), (.int r)]), (.tuple [(.str "deed"), (.int r), (.list [(.int r)])])]
def thL (r : Int) : List PyData := th1 r ++ th2 r ++ th3 r
theorem rp_i21 {ns : List Nat} {r : Int} (h : r.natAbs < 10 ^ 21) : rp ns (.int r) = true := by
  cases ns <;> exact decide_eq_true h
theorem thL_ok {r : Int} (h0 : 0 ≤ r) (h1 : r < 20) : ∀ x ∈ thL r, RpOk x := by
  have hr : ∀ ns, rp ns (.int r) = true := fun ns => rp_i21 (Nat.lt_trans (show r.natAbs < 20 by omega) (by decide))
  have big : RpOk (.int 1000000000000000000000000000000) := by
    refine ⟨rfl, rfl, by decide, ?_⟩
    decide +kernel
  have tl : ∀ {ns n} {l : List PyData}, l.length ≤ n → (∀ x ∈ l, rp ns x = true) → rp (n :: ns) (.tuple l) = true := fun h1 h2 => rp_tup.mpr ⟨h1, h2⟩
  have ll : ∀ {ns n} {l : List PyData}, l.length ≤ n → (∀ x ∈ l, rp ns x = true) → rp (n :: ns) (.list l) = true := fun h1 h2 => rp_lst.mpr ⟨h1, h2⟩
  have fin : ∀ {x}, rp [4, 4] x = true → RpOk x := fun h => rp_ok h (by decide) (by decide)
  have c1 : ∀ {ns} {a : PyData}, rp ns a = true → ∀ x ∈ [a], rp ns x = true := fun h x hx => by rw [List.mem_singleton.mp hx]; exact h
  have c2 : ∀ {ns} {a b : PyData}, rp ns a = true → rp ns b = true → ∀ x ∈ [a, b], rp ns x = true := fun h1 h2 x hx => by
    simp only [List.mem_cons, List.not_mem_nil, or_false] at hx
    rcases hx with rfl | rfl <;> assumption
  have c3 : ∀ {ns} {a b c : PyData}, rp ns a = true → rp ns b = true → rp ns c = true → ∀ x ∈ [a, b, c], rp ns x = true := fun h1 h2 h3 x hx => by
    simp only [List.mem_cons, List.not_mem_nil, or_false] at hx
    rcases hx with rfl | rfl | rfl <;> assumption
  intro x hx
  simp only [thL, th1, th2, th3, List.mem_append, List.mem_cons, List.not_mem_nil, or_false, or_assoc] at hx
  rcases hx with rfl | rfl | rfl | rfl | rfl | rfl | rfl | rfl | rfl | rfl | rfl | rfl | rfl | rfl | rfl | rfl | rfl | rfl | rfl | rfl | rfl
  · exact fin (tl (Nat.le_of_ble_eq_true rfl) (c1 (by decide +kernel)))
  · exact fin (tl (Nat.le_of_ble_eq_true rfl) (c2 (by decide +kernel) (hr _)))
  · exact fin (tl (Nat.le_of_ble_eq_true rfl) (c1 (by decide +kernel)))
  · exact fin (tl (Nat.le_of_ble_eq_true rfl) (c1 (by decide +kernel)))
  · exact fin (tl (Nat.le_of_ble_eq_true rfl) (c2 (by decide +kernel) (hr _)))
  · exact fin (tl (Nat.le_of_ble_eq_true rfl) (c1 (by decide +kernel)))
  · exact fin (tl (Nat.le_of_ble_eq_true rfl) (c2 (by decide +kernel) (hr _)))
  · exact fin (tl (Nat.le_of_ble_eq_true rfl) (c1 (by decide +kernel)))
  · exact fin (tl (Nat.le_of_ble_eq_true rfl) (c2 (by decide +kernel) (hr _)))
  · exact fin (by decide +kernel)
  · exact fin (by decide +kernel)
  · exact fin (by decide +kernel)
  · exact big
  · exact fin (by decide +kernel)
  · exact fin (by decide +kernel)
  · exact fin (tl (by decide) (fun x hx => by cases hx))
  · exact fin (ll (by decide) (fun x hx => by cases hx))
  · exact fin (tl (Nat.le_of_ble_eq_true rfl) (c1 (by decide +kernel)))
  · exact fin (tl (Nat.le_of_ble_eq_true rfl) (c2 (hr _) (hr _)))
  · exact fin (ll (Nat.le_of_ble_eq_true rfl) (c2 (by decide +kernel) (hr _)))
  · exact fin (tl (Nat.le_of_ble_eq_true rfl) (c3 (by decide +kernel) (hr _) (ll (Nat.le_of_ble_eq_true rfl) (c1 (hr _)))))
/-- a thing -/
def ThF (Φ : List D → Sto → R D) : Prop := ∀ {s : Sto} {p c k : Nat}, Pu s p c (k + 2) → ∃ (x : PyData) (s' : Sto), Φ [.o p] s = .ok (.p x) s' ∧ RpOk x ∧ Pu s' p c k ∧ Kp p c s s'
theorem thing_run (P : Pg) {d : Nat} (hd : DrawF (P.Φ d)) : ThF (fun args s => runB P ⟨1, 3, b_l_thing d, true⟩ args s) := by
  intro s p c k h
  obtain ⟨r, s1, e1, r0, r1, pu1, kp1⟩ := hd (k := k + 1) (m := 20) h (by decide) (by decide)
  obtain ⟨i, s2, e2, i0, i1, pu2, kp2⟩ := hd (k := k) (m := 21) pu1 (by decide) (by decide)
  obtain ⟨j, rfl⟩ := Int.eq_ofNat_of_zero_le i0
  have hj : j < (thL r).length := by show j < 21; omega
  have ks : Ks p c s s2 := ⟨by rw [kp2.1, kp1.1]; exact Nat.le_refl _, fun n _ h1 h2 => (kp2.2 n h1 h2).trans (kp1.2 n h1 h2)⟩
  have key : exs P (b_l_thing d) [some (D.o p), none, none] s = .rt (.p (thL r)[j]) s2 := by
    unfold b_l_thing
    rw [st_asg (e1 := [some (D.o p), some (D.p (.int r)), none]) (V_c2 (V_v rfl) V_k e1) rfl]
    rw [st_asg (e1 := [some (D.o p), some (D.p (.int r)), some (D.p (.list (th1 r)))]) (show ev P _ _ _ = .ok (.p (.list (th1 r))) _ from (V_lst (Es_cons (V_tup (Es_cons V_k Es_nil) (Nat.le_of_ble_eq_true rfl)) (Es_cons (V_tup (Es_cons V_k (Es_cons (V_v rfl) Es_nil)) (Nat.le_of_ble_eq_true rfl)) (Es_cons (V_tup (Es_cons V_k Es_nil) (Nat.le_of_ble_eq_true rfl)) (Es_cons (V_tup (Es_cons V_k Es_nil) (Nat.le_of_ble_eq_true rfl)) (Es_cons (V_tup (Es_cons V_k (Es_cons (V_v rfl) Es_nil)) (Nat.le_of_ble_eq_true rfl)) (Es_cons (V_tup (Es_cons V_k Es_nil) (Nat.le_of_ble_eq_true rfl)) (Es_cons (V_tup (Es_cons V_k (Es_cons (V_v rfl) Es_nil)) (Nat.le_of_ble_eq_true rfl)) Es_nil))))))) (Nat.le_of_ble_eq_true rfl))) rfl]
    rw [st_asg (e1 := [some (D.o p), some (D.p (.int r)), some (D.p (.list (th1 r ++ th2 r)))]) (V_cat (p := th1 r) (q := th2 r) (V_v rfl) (show ev P _ _ _ = .ok (.p (.list (th2 r))) _ from (V_lst (Es_cons (V_tup (Es_cons V_k Es_nil) (Nat.le_of_ble_eq_true rfl)) (Es_cons (V_tup (Es_cons V_k (Es_cons (V_v rfl) Es_nil)) (Nat.le_of_ble_eq_true rfl)) Es_nil)) (Nat.le_of_ble_eq_true rfl))) (by show 9 ≤ 1000000; decide)) rfl]
    rw [st_asg (e1 := [some (D.o p), some (D.p (.int r)), some (D.p (.list (thL r)))]) (V_cat (p := th1 r ++ th2 r) (q := th3 r) (V_v rfl) (show ev P _ _ _ = .ok (.p (.list (th3 r))) _ from (V_lst (Es_cons V_k (Es_cons V_k (Es_cons V_k (Es_cons V_pow30 (Es_cons V_k (Es_cons V_k (Es_cons (V_tup Es_nil (Nat.le_of_ble_eq_true rfl)) (Es_cons (V_lst Es_nil (Nat.le_of_ble_eq_true rfl)) (Es_cons (V_tup (Es_cons V_k Es_nil) (Nat.le_of_ble_eq_true rfl)) (Es_cons (V_tup (Es_cons (V_v rfl) (Es_cons (V_v rfl) Es_nil)) (Nat.le_of_ble_eq_true rfl)) (Es_cons (V_lst (Es_cons V_k (Es_cons (V_v rfl) Es_nil)) (Nat.le_of_ble_eq_true rfl)) (Es_cons (V_tup (Es_cons V_k (Es_cons (V_v rfl) (Es_cons (V_lst (Es_cons (V_v rfl) Es_nil) (Nat.le_of_ble_eq_true rfl)) Es_nil))) (Nat.le_of_ble_eq_true rfl)) Es_nil)))))))))))) (Nat.le_of_ble_eq_true rfl))) (by show 21 ≤ 1000000; decide)) rfl]
    refine st_ret ?_
    rw [ev_ix, V_v (d := .p (.list (thL r))) rfl, R.bind_ok, V_c2 (V_v rfl) V_k e2, R.bind_ok]
    exact i_ix (asSq_l (thL r)) (atI_nat (pD_get (List.getElem?_eq_getElem hj)))
  obtain ⟨s3, e3, pu3, kp3⟩ := run_dr (n := 1) (N := 3) (args := [.o p]) key h.lt.1 h.lt.2 pu2 ks
  exact ⟨_, s3, e3, thL_ok r0 r1 _ (List.getElem_mem hj), pu3, kp3⟩
theorem st_raise0 {P : Pg} {e : Env} {s : Sto} {k : Nat} {r : Ss} : exs P (.cons (.raise0 k) r) e s = .exc ⟨k, none⟩ e s := by
  simp only [exs, exe]
  rfl
theorem st_raiseT {P : Pg} {e : Env} {s s1 : Sto} {k : Nat} {a : E} {r : Ss} {d : D} (h : ev P a e s = .ok d s1) : exs P (.cons (.raiseT k a) r) e s = .exc ⟨k, none⟩ e s1 := by
  simp only [exs, exe, h]
  rfl
theorem st_raiseK {P : Pg} {e : Env} {s s1 : Sto} {k f : Nat} {a : E} {r : Ss} {d : D} (h : ev P a e s = .ok d s1) : exs P (.cons (.raiseK k f a) r) e s = .exc ⟨k, some d⟩ e s1 := by
  simp only [exs, exe, h]
  rfl
def BareF (Φ : List D → Sto → R D) : Prop := ∀ {s : Sto} (w : Nat), w < 8 → Φ [.p (.int (w : Int))] s = .exc ⟨w + 1, none⟩ s
def TexF (Φ : List D → Sto → R D) : Prop := ∀ {s : Sto} (w : Nat) (z : Str), w < 8 → Φ [.p (.int (w : Int)), .p (.str z)] s = .exc ⟨w + 1, none⟩ s
def ValF (Φ : List D → Sto → R D) : Prop := ∀ {s : Sto} (w y : Nat) (x : PyData), 7 < w → w < 11 → y < 2 → Φ [.p (.int (w : Int)), .p (.int (y : Int)), .p x] s = .exc ⟨w + 1, some (.p x)⟩ s
theorem lt8 {w : Nat} (h : w < 8) : w = 0 ∨ w = 1 ∨ w = 2 ∨ w = 3 ∨ w = 4 ∨ w = 5 ∨ w = 6 ∨ w = 7 := by omega
theorem bare_run (P : Pg) : BareF (fun args s => runB P ⟨1, 1, b_l_bare, true⟩ args s) := by
  intro s w hw
  refine run_exc (e := ([.p (.int (w : Int))] : List D).map some) ?_ rfl
  show exs P b_l_bare (([.p (.int (w : Int))] : List D).map some) s = _
  unfold b_l_bare
  rcases lt8 hw with rfl | rfl | rfl | rfl | rfl | rfl | rfl | rfl
  · rw [st_ifT (B_eqI (i := 0) (V_v rfl) V_k), st_raise0, nxt_exc]
  · rw [st_ifF (B_eqI (i := 1) (V_v rfl) V_k), st_nil, RS.nxt_nx, st_ifT (B_eqI (i := 1) (V_v rfl) V_k), st_raise0, nxt_exc]
  · rw [st_ifF (B_eqI (i := 2) (V_v rfl) V_k), st_nil, RS.nxt_nx, st_ifF (B_eqI (i := 2) (V_v rfl) V_k), st_nil, RS.nxt_nx, st_ifT (B_eqI (i := 2) (V_v rfl) V_k), st_raise0, nxt_exc]
  · rw [st_ifF (B_eqI (i := 3) (V_v rfl) V_k), st_nil, RS.nxt_nx, st_ifF (B_eqI (i := 3) (V_v rfl) V_k), st_nil, RS.nxt_nx, st_ifF (B_eqI (i := 3) (V_v rfl) V_k), st_nil, RS.nxt_nx, st_ifT (B_eqI (i := 3) (V_v rfl) V_k), st_raise0, nxt_exc]
  · rw [st_ifF (B_eqI (i := 4) (V_v rfl) V_k), st_nil, RS.nxt_nx, st_ifF (B_eqI (i := 4) (V_v rfl) V_k), st_nil, RS.nxt_nx, st_ifF (B_eqI (i := 4) (V_v rfl) V_k), st_nil, RS.nxt_nx, st_ifF (B_eqI (i := 4) (V_v rfl) V_k), st_nil, RS.nxt_nx, st_ifT (B_eqI (i := 4) (V_v rfl) V_k), st_raise0, nxt_exc]
  · rw [st_ifF (B_eqI (i := 5) (V_v rfl) V_k), st_nil, RS.nxt_nx, st_ifF (B_eqI (i := 5) (V_v rfl) V_k), st_nil, RS.nxt_nx, st_ifF (B_eqI (i := 5) (V_v rfl) V_k), st_nil, RS.nxt_nx, st_ifF (B_eqI (i := 5) (V_v rfl) V_k), st_nil, RS.nxt_nx, st_ifF (B_eqI (i := 5) (V_v rfl) V_k), st_nil, RS.nxt_nx, st_ifT (B_eqI (i := 5) (V_v rfl) V_k), st_raise0, nxt_exc]
  · rw [st_ifF (B_eqI (i := 6) (V_v rfl) V_k), st_nil, RS.nxt_nx, st_ifF (B_eqI (i := 6) (V_v rfl) V_k), st_nil, RS.nxt_nx, st_ifF (B_eqI (i := 6) (V_v rfl) V_k), st_nil, RS.nxt_nx, st_ifF (B_eqI (i := 6) (V_v rfl) V_k), st_nil, RS.nxt_nx, st_ifF (B_eqI (i := 6) (V_v rfl) V_k), st_nil, RS.nxt_nx, st_ifF (B_eqI (i := 6) (V_v rfl) V_k), st_nil, RS.nxt_nx, st_ifT (B_eqI (i := 6) (V_v rfl) V_k), st_raise0, nxt_exc]
  · rw [st_ifF (B_eqI (i := 7) (V_v rfl) V_k), st_nil, RS.nxt_nx, st_ifF (B_eqI (i := 7) (V_v rfl) V_k), st_nil, RS.nxt_nx, st_ifF (B_eqI (i := 7) (V_v rfl) V_k), st_nil, RS.nxt_nx, st_ifF (B_eqI (i := 7) (V_v rfl) V_k), st_nil, RS.nxt_nx, st_ifF (B_eqI (i := 7) (V_v rfl) V_k), st_nil, RS.nxt_nx, st_ifF (B_eqI (i := 7) (V_v rfl) V_k), st_nil, RS.nxt_nx, st_ifF (B_eqI (i := 7) (V_v rfl) V_k), st_nil, RS.nxt_nx, st_ifT (B_eqI (i := 7) (V_v rfl) V_k), st_raise0, nxt_exc]
theorem texted_run (P : Pg) : TexF (fun args s => runB P ⟨2, 2, b_l_texted, true⟩ args s) := by
  intro s w z hw
  refine run_exc (e := ([.p (.int (w : Int)), .p (.str z)] : List D).map some) ?_ rfl
  show exs P b_l_texted (([.p (.int (w : Int)), .p (.str z)] : List D).map some) s = _
  unfold b_l_texted
  rcases lt8 hw with rfl | rfl | rfl | rfl | rfl | rfl | rfl | rfl
  · rw [st_ifT (B_eqI (i := 0) (V_v rfl) V_k), st_raiseT (V_v rfl), nxt_exc]
  · rw [st_ifF (B_eqI (i := 1) (V_v rfl) V_k), st_nil, RS.nxt_nx, st_ifT (B_eqI (i := 1) (V_v rfl) V_k), st_raiseT (V_v rfl), nxt_exc]
  · rw [st_ifF (B_eqI (i := 2) (V_v rfl) V_k), st_nil, RS.nxt_nx, st_ifF (B_eqI (i := 2) (V_v rfl) V_k), st_nil, RS.nxt_nx, st_ifT (B_eqI (i := 2) (V_v rfl) V_k), st_raiseT (V_v rfl), nxt_exc]
  · rw [st_ifF (B_eqI (i := 3) (V_v rfl) V_k), st_nil, RS.nxt_nx, st_ifF (B_eqI (i := 3) (V_v rfl) V_k), st_nil, RS.nxt_nx, st_ifF (B_eqI (i := 3) (V_v rfl) V_k), st_nil, RS.nxt_nx, st_ifT (B_eqI (i := 3) (V_v rfl) V_k), st_raiseT (V_v rfl), nxt_exc]
  · rw [st_ifF (B_eqI (i := 4) (V_v rfl) V_k), st_nil, RS.nxt_nx, st_ifF (B_eqI (i := 4) (V_v rfl) V_k), st_nil, RS.nxt_nx, st_ifF (B_eqI (i := 4) (V_v rfl) V_k), st_nil, RS.nxt_nx, st_ifF (B_eqI (i := 4) (V_v rfl) V_k), st_nil, RS.nxt_nx, st_ifT (B_eqI (i := 4) (V_v rfl) V_k), st_raiseT (V_v rfl), nxt_exc]
  · rw [st_ifF (B_eqI (i := 5) (V_v rfl) V_k), st_nil, RS.nxt_nx, st_ifF (B_eqI (i := 5) (V_v rfl) V_k), st_nil, RS.nxt_nx, st_ifF (B_eqI (i := 5) (V_v rfl) V_k), st_nil, RS.nxt_nx, st_ifF (B_eqI (i := 5) (V_v rfl) V_k), st_nil, RS.nxt_nx, st_ifF (B_eqI (i := 5) (V_v rfl) V_k), st_nil, RS.nxt_nx, st_ifT (B_eqI (i := 5) (V_v rfl) V_k), st_raiseT (V_v rfl), nxt_exc]
  · rw [st_ifF (B_eqI (i := 6) (V_v rfl) V_k), st_nil, RS.nxt_nx, st_ifF (B_eqI (i := 6) (V_v rfl) V_k), st_nil, RS.nxt_nx, st_ifF (B_eqI (i := 6) (V_v rfl) V_k), st_nil, RS.nxt_nx, st_ifF (B_eqI (i := 6) (V_v rfl) V_k), st_nil, RS.nxt_nx, st_ifF (B_eqI (i := 6) (V_v rfl) V_k), st_nil, RS.nxt_nx, st_ifF (B_eqI (i := 6) (V_v rfl) V_k), st_nil, RS.nxt_nx, st_ifT (B_eqI (i := 6) (V_v rfl) V_k), st_raiseT (V_v rfl), nxt_exc]
  · rw [st_ifF (B_eqI (i := 7) (V_v rfl) V_k), st_nil, RS.nxt_nx, st_ifF (B_eqI (i := 7) (V_v rfl) V_k), st_nil, RS.nxt_nx, st_ifF (B_eqI (i := 7) (V_v rfl) V_k), st_nil, RS.nxt_nx, st_ifF (B_eqI (i := 7) (V_v rfl) V_k), st_nil, RS.nxt_nx, st_ifF (B_eqI (i := 7) (V_v rfl) V_k), st_nil, RS.nxt_nx, st_ifF (B_eqI (i := 7) (V_v rfl) V_k), st_nil, RS.nxt_nx, st_ifF (B_eqI (i := 7) (V_v rfl) V_k), st_nil, RS.nxt_nx, st_ifT (B_eqI (i := 7) (V_v rfl) V_k), st_raiseT (V_v rfl), nxt_exc]
theorem valued_run (P : Pg) : ValF (fun args s => runB P ⟨3, 3, b_l_valued, true⟩ args s) := by
  intro s w y x h1 h2 h3
  refine run_exc (e := ([.p (.int (w : Int)), .p (.int (y : Int)), .p x] : List D).map some) ?_ rfl
  show exs P b_l_valued (([.p (.int (w : Int)), .p (.int (y : Int)), .p x] : List D).map some) s = _
  have hw : w = 8 ∨ w = 9 ∨ w = 10 := by omega
  have hy : y = 0 ∨ y = 1 := by omega
  unfold b_l_valued
  rcases hy with rfl | rfl <;> rcases hw with rfl | rfl | rfl
  · rw [st_ifT (B_an (x := true) (y := true) (B_eqI (i := 8) (V_v rfl) V_k) fun _ => B_eqI (i := 0) (V_v rfl) V_k), st_raiseV (V_v rfl), nxt_exc]
  · rw [st_ifF (B_an (x := false) (y := true) (B_eqI (i := 9) (V_v rfl) V_k) fun _ => B_eqI (i := 0) (V_v rfl) V_k), st_nil, RS.nxt_nx, st_ifT (B_an (x := true) (y := true) (B_eqI (i := 9) (V_v rfl) V_k) fun _ => B_eqI (i := 0) (V_v rfl) V_k), st_raiseV (V_v rfl), nxt_exc]
  · rw [st_ifF (B_an (x := false) (y := true) (B_eqI (i := 10) (V_v rfl) V_k) fun _ => B_eqI (i := 0) (V_v rfl) V_k), st_nil, RS.nxt_nx, st_ifF (B_an (x := false) (y := true) (B_eqI (i := 10) (V_v rfl) V_k) fun _ => B_eqI (i := 0) (V_v rfl) V_k), st_nil, RS.nxt_nx, st_ifT (B_an (x := true) (y := true) (B_eqI (i := 10) (V_v rfl) V_k) fun _ => B_eqI (i := 0) (V_v rfl) V_k), st_raiseV (V_v rfl), nxt_exc]
  · rw [st_ifF (B_an (x := true) (y := false) (B_eqI (i := 8) (V_v rfl) V_k) fun _ => B_eqI (i := 1) (V_v rfl) V_k), st_nil, RS.nxt_nx, st_ifF (B_an (x := false) (y := false) (B_eqI (i := 8) (V_v rfl) V_k) fun _ => B_eqI (i := 1) (V_v rfl) V_k), st_nil, RS.nxt_nx, st_ifF (B_an (x := false) (y := false) (B_eqI (i := 8) (V_v rfl) V_k) fun _ => B_eqI (i := 1) (V_v rfl) V_k), st_nil, RS.nxt_nx, st_ifT (B_eqI (i := 8) (V_v rfl) V_k), st_raiseK (V_v rfl), nxt_exc]
  · rw [st_ifF (B_an (x := false) (y := false) (B_eqI (i := 9) (V_v rfl) V_k) fun _ => B_eqI (i := 1) (V_v rfl) V_k), st_nil, RS.nxt_nx, st_ifF (B_an (x := true) (y := false) (B_eqI (i := 9) (V_v rfl) V_k) fun _ => B_eqI (i := 1) (V_v rfl) V_k), st_nil, RS.nxt_nx, st_ifF (B_an (x := false) (y := false) (B_eqI (i := 9) (V_v rfl) V_k) fun _ => B_eqI (i := 1) (V_v rfl) V_k), st_nil, RS.nxt_nx, st_ifF (B_eqI (i := 9) (V_v rfl) V_k), st_nil, RS.nxt_nx, st_ifT (B_eqI (i := 9) (V_v rfl) V_k), st_raiseK (V_v rfl), nxt_exc]
  · rw [st_ifF (B_an (x := false) (y := false) (B_eqI (i := 10) (V_v rfl) V_k) fun _ => B_eqI (i := 1) (V_v rfl) V_k), st_nil, RS.nxt_nx, st_ifF (B_an (x := false) (y := false) (B_eqI (i := 10) (V_v rfl) V_k) fun _ => B_eqI (i := 1) (V_v rfl) V_k), st_nil, RS.nxt_nx, st_ifF (B_an (x := true) (y := false) (B_eqI (i := 10) (V_v rfl) V_k) fun _ => B_eqI (i := 1) (V_v rfl) V_k), st_nil, RS.nxt_nx, st_ifF (B_eqI (i := 10) (V_v rfl) V_k), st_nil, RS.nxt_nx, st_ifF (B_eqI (i := 10) (V_v rfl) V_k), st_nil, RS.nxt_nx, st_ifT (B_eqI (i := 10) (V_v rfl) V_k), st_raiseK (V_v rfl), nxt_exc]
end
end G

namespace G
open PySem PySem.Spec PyProof.Rows L2
open Classical
noncomputable section

open Enc (enc)
/-! ### k75: kept refusals -/
theorem run_exn {P : Pg} {n N c : Nat} {pl : Option D} {b : Ss} {args : List D} {s : Sto} (h : exs P b (args.map some ++ List.replicate (N - args.length) none) s = .rt (.o s.length) (s ++ [some (Cell.exn c pl)])) (hp : plX pl = true) : runB P ⟨n, N, b, false⟩ args s = .ok (.o s.length) (s ++ [some (Cell.exn c pl)]) := by
  unfold runB
  show (match exs P b (args.map some ++ List.replicate (N - args.length) none) s with
    | .nx _ s' => finO _ (.p .none) s s'
    | .rt d s' => finO _ d s s'
    | .exc x _ s' => finX x s s'
    | _ => .bad) = _
  rw [h]
  show rOr (cut s (s ++ [some (Cell.exn c pl)])) (fun s3 => rOr (own s.length 8 (.o s.length) (s ++ [some (Cell.exn c pl)]) s3) fun q => R.ok q.1 q.2.2) = _
  have e : own s.length 8 (.o s.length) (s ++ [some (Cell.exn c pl)]) s = some (.o s.length, (s ++ [some (Cell.exn c pl)]).set s.length none, s ++ [some (Cell.exn c pl)]) := by
    show (if s.length < s.length then some (D.o s.length, s ++ [some (Cell.exn c pl)], s) else match cel (s ++ [some (Cell.exn c pl)]) s.length with
      | some (Cell.lst xs) => (match ownL (own s.length 7) xs ((s ++ [some (Cell.exn c pl)]).set s.length none) s with
        | some (ys, s1, a1) => some (D.o a1.length, s1, a1 ++ [some (Cell.lst ys)])
        | none => none)
      | some (Cell.tup xs) => (match ownL (own s.length 7) xs ((s ++ [some (Cell.exn c pl)]).set s.length none) s with
        | some (ys, s1, a1) => some (.o a1.length, s1, a1 ++ [some (Cell.tup ys)])
        | none => none)
      | some (Cell.dct kvs) => (match ownL (own s.length 7) (kvs.map (·.2)) ((s ++ [some (Cell.exn c pl)]).set s.length none) s with
        | some (ys, s1, a1) => some (.o a1.length, s1, a1 ++ [some (Cell.dct ((kvs.map (·.1)).zip ys))])
        | none => none)
      | some (Cell.exn j pl2) => if plX pl2 = true then some (.o s.length, (s ++ [some (Cell.exn c pl)]).set s.length none, s ++ [some (Cell.exn j pl2)]) else none
      | _ => none) = _
    rw [if_neg (Nat.lt_irrefl _), cel_of (get_app s (some (Cell.exn c pl)))]
    dsimp only
    rw [if_pos hp]
  rw [cut_app, rOr_some, e, rOr_some]
def plC (w : Nat) (x : PyData) : Option D := if 7 < w then some (.p x) else none
theorem plC_ok (w : Nat) (x : PyData) : plX (plC w x) = true := by
  unfold plC
  split <;> rfl
def CaF (Φ : List D → Sto → R D) : Prop := ∀ {s : Sto} (w y : Nat) (x : PyData), w < 11 → y < 2 → RpOk x → Φ [.p (.int (w : Int)), .p (.int (y : Int)), .p x] s = .ok (.o s.length) (s ++ [some (Cell.exn (w + 1) (plC w x))])
theorem V_strD {P : Pg} {e : Env} {s : Sto} {a : E} {q : PyData} (h1 : ev P a e s = .ok (.p q) s) (hq : RpOk q) : ∃ z, ev P (.bi .str false a) e s = .ok (.p (.str z)) s := by
  rw [ev_bi, h1, R.bind_ok]
  unfold biop
  simp only [res_p]
  split
  · rename_i z e
    exact ⟨_, rfl⟩
  · rename_i d _ e
    cases e
    exact ⟨_, if_pos hq⟩
  · rename_i e
    cases e
theorem caught_run (P : Pg) {c_l_valued c_l_bare c_l_texted : Nat} (hS : Sb12 P) (hv : ValF (P.Φ c_l_valued)) (hb : BareF (P.Φ c_l_bare)) (ht : TexF (P.Φ c_l_texted)) : CaF (fun args s => runB P ⟨3, 5, b_l_caught c_l_valued c_l_bare c_l_texted, false⟩ args s) := by
  intro s w y x hw hy hx
  refine run_exn ?_ (plC_ok w x)
  show exs P (b_l_caught c_l_valued c_l_bare c_l_texted) [some (D.p (.int (w : Int))), some (D.p (.int (y : Int))), some (D.p x), none, none] s = _
  have h0 : P.sb (w + 1) 0 = some true := by
    rw [hS (w + 1) (by omega) 0 (by decide)]
    simp
  unfold b_l_caught
  rw [st_asg (e1 := [some (D.p (.int (w : Int))), some (D.p (.int (y : Int))), some (D.p x), some (D.p .none), none]) V_k rfl]
  have fin : ∀ {b : Ss}, exs P b [some (D.p (.int (w : Int))), some (D.p (.int (y : Int))), some (D.p x), some (D.p .none), none] s = .exc ⟨w + 1, plC w x⟩ [some (D.p (.int (w : Int))), some (D.p (.int (y : Int))), some (D.p x), some (D.p .none), none] s → exs P (.cons (.tryC b 0 4 3) (.cons (.ret (.v 3)) .nil)) [some (D.p (.int (w : Int))), some (D.p (.int (y : Int))), some (D.p x), some (D.p .none), none] s = .rt (.o s.length) (s ++ [some (Cell.exn (w + 1) (plC w x))]) := fun h => by
    rw [st_try (y := ⟨w + 1, plC w x⟩) h h0 (by show 4 < 5; decide)]
    exact st_ret (V_v rfl)
  refine fin ?_
  by_cases h7 : 7 < w
  · have e7 : plC w x = some (.p x) := if_pos h7
    rw [e7, st_ifT (s1 := s) ((B_gt (i := w) (j := 7) (V_v rfl) V_k).trans (by rw [decide_eq_true (show (7 : Int) < (w : Int) by omega)])), st_exX (V_c3 (V_v rfl) (V_v rfl) (V_v rfl) (hv w y x h7 hw hy)), nxt_exc]
  · have e7 : plC w x = none := if_neg h7
    rw [e7, st_ifF (s1 := s) ((B_gt (i := w) (j := 7) (V_v rfl) V_k).trans (by rw [decide_eq_false (show ¬ (7 : Int) < (w : Int) by omega)])), st_nil, RS.nxt_nx]
    have hy2 : y = 0 ∨ y = 1 := by omega
    rcases hy2 with rfl | rfl
    · rw [st_ifT (B_eqI (i := 0) (V_v rfl) V_k), st_exX (V_c1 (V_v rfl) (hb w (by omega))), nxt_exc]
    · obtain ⟨z, ez⟩ := V_strD (P := P) (e := [some (D.p (.int (w : Int))), some (D.p (.int ((1 : Nat) : Int))), some (D.p x), some (D.p .none), none]) (s := s) (a := .v 2) (V_v rfl) hx
      rw [st_ifF (B_eqI (i := 1) (V_v rfl) V_k), st_nil, RS.nxt_nx, st_exX (V_c2 (V_v rfl) ez (ht w z (by omega)))]
/-! which class -/
def MkF75 (Φ : List D → Sto → R D) : Prop := ∀ {s : Sto} {n c : Nat} {pl : Option D}, c < 11 → s[n]? = some (some (Cell.exn (c + 1) pl)) → Φ [.o n] s = .ok (.p (.list [.int (c : Int)])) s
theorem range_one {n c : Nat} (h : c < n) : (List.range n).filter (fun k => decide (c = k)) = [c] := by
  induction n with
  | zero => omega
  | succ n ih =>
    rw [List.range_succ, List.filter_append]
    by_cases e : c = n
    · subst e
      rw [List.filter_eq_nil_iff.mpr fun a ha => by
        have := List.mem_range.mp ha
        simp only [decide_eq_true_eq]
        omega]
      simp
    · rw [ih (by omega)]
      simp [e]
theorem marks75_run (P : Pg) (hS : Sb12 P) : MkF75 (fun args s => runB P ⟨1, 3, b_l_marks, true⟩ args s) := by
  intro s n c pl hc g
  have hx : ∀ k, k < 12 → ∀ {v1 v2 : Option D}, ev P (.isx (.v 0) (some k)) [some (D.o n), v1, v2] s = .ok (.p (.bool (decide (c + 1 = k) || decide (k = 0)))) s := fun k hk {v1 v2} => B_isx (V_v rfl) (by
    unfold isiX
    simp only [cel_of g]
    exact hS (c + 1) (by omega) k hk)
  refine run_pure ?_
  show exs P b_l_marks [some (D.o n), none, none] s = _
  unfold b_l_marks
  rw [st_asg (e1 := [some (D.o n), some (D.p (.list [PyData.bool (decide (c + 1 = 1) || decide (1 = 0)), PyData.bool (decide (c + 1 = 2) || decide (2 = 0)), PyData.bool (decide (c + 1 = 3) || decide (3 = 0))])), none]) (V_lst (qs := [PyData.bool (decide (c + 1 = 1) || decide (1 = 0)), PyData.bool (decide (c + 1 = 2) || decide (2 = 0)), PyData.bool (decide (c + 1 = 3) || decide (3 = 0))]) (Es_cons (hx 1 (by decide)) (Es_cons (hx 2 (by decide)) (Es_cons (hx 3 (by decide)) Es_nil))) (by show 3 ≤ 1000; decide)) rfl]
  rw [st_asg (e1 := [some (D.o n), some (D.p (.list [PyData.bool (decide (c + 1 = 1) || decide (1 = 0)), PyData.bool (decide (c + 1 = 2) || decide (2 = 0)), PyData.bool (decide (c + 1 = 3) || decide (3 = 0)), PyData.bool (decide (c + 1 = 4) || decide (4 = 0)), PyData.bool (decide (c + 1 = 5) || decide (5 = 0)), PyData.bool (decide (c + 1 = 6) || decide (6 = 0))])), none]) (V_cat (p := [PyData.bool (decide (c + 1 = 1) || decide (1 = 0)), PyData.bool (decide (c + 1 = 2) || decide (2 = 0)), PyData.bool (decide (c + 1 = 3) || decide (3 = 0))]) (q := [PyData.bool (decide (c + 1 = 4) || decide (4 = 0)), PyData.bool (decide (c + 1 = 5) || decide (5 = 0)), PyData.bool (decide (c + 1 = 6) || decide (6 = 0))]) (V_v rfl) (V_lst (qs := [PyData.bool (decide (c + 1 = 4) || decide (4 = 0)), PyData.bool (decide (c + 1 = 5) || decide (5 = 0)), PyData.bool (decide (c + 1 = 6) || decide (6 = 0))]) (Es_cons (hx 4 (by decide)) (Es_cons (hx 5 (by decide)) (Es_cons (hx 6 (by decide)) Es_nil))) (by show 3 ≤ 1000; decide)) (by show 6 ≤ 1000000; decide)) rfl]
  rw [st_asg (e1 := [some (D.o n), some (D.p (.list [PyData.bool (decide (c + 1 = 1) || decide (1 = 0)), PyData.bool (decide (c + 1 = 2) || decide (2 = 0)), PyData.bool (decide (c + 1 = 3) || decide (3 = 0)), PyData.bool (decide (c + 1 = 4) || decide (4 = 0)), PyData.bool (decide (c + 1 = 5) || decide (5 = 0)), PyData.bool (decide (c + 1 = 6) || decide (6 = 0)), PyData.bool (decide (c + 1 = 7) || decide (7 = 0)), PyData.bool (decide (c + 1 = 8) || decide (8 = 0)), PyData.bool (decide (c + 1 = 9) || decide (9 = 0))])), none]) (V_cat (p := [PyData.bool (decide (c + 1 = 1) || decide (1 = 0)), PyData.bool (decide (c + 1 = 2) || decide (2 = 0)), PyData.bool (decide (c + 1 = 3) || decide (3 = 0)), PyData.bool (decide (c + 1 = 4) || decide (4 = 0)), PyData.bool (decide (c + 1 = 5) || decide (5 = 0)), PyData.bool (decide (c + 1 = 6) || decide (6 = 0))]) (q := [PyData.bool (decide (c + 1 = 7) || decide (7 = 0)), PyData.bool (decide (c + 1 = 8) || decide (8 = 0)), PyData.bool (decide (c + 1 = 9) || decide (9 = 0))]) (V_v rfl) (V_lst (qs := [PyData.bool (decide (c + 1 = 7) || decide (7 = 0)), PyData.bool (decide (c + 1 = 8) || decide (8 = 0)), PyData.bool (decide (c + 1 = 9) || decide (9 = 0))]) (Es_cons (hx 7 (by decide)) (Es_cons (hx 8 (by decide)) (Es_cons (hx 9 (by decide)) Es_nil))) (by show 3 ≤ 1000; decide)) (by show 9 ≤ 1000000; decide)) rfl]
  rw [st_asg (e1 := [some (D.o n), some (D.p (.list [PyData.bool (decide (c + 1 = 1) || decide (1 = 0)), PyData.bool (decide (c + 1 = 2) || decide (2 = 0)), PyData.bool (decide (c + 1 = 3) || decide (3 = 0)), PyData.bool (decide (c + 1 = 4) || decide (4 = 0)), PyData.bool (decide (c + 1 = 5) || decide (5 = 0)), PyData.bool (decide (c + 1 = 6) || decide (6 = 0)), PyData.bool (decide (c + 1 = 7) || decide (7 = 0)), PyData.bool (decide (c + 1 = 8) || decide (8 = 0)), PyData.bool (decide (c + 1 = 9) || decide (9 = 0)), PyData.bool (decide (c + 1 = 10) || decide (10 = 0)), PyData.bool (decide (c + 1 = 11) || decide (11 = 0))])), none]) (V_cat (p := [PyData.bool (decide (c + 1 = 1) || decide (1 = 0)), PyData.bool (decide (c + 1 = 2) || decide (2 = 0)), PyData.bool (decide (c + 1 = 3) || decide (3 = 0)), PyData.bool (decide (c + 1 = 4) || decide (4 = 0)), PyData.bool (decide (c + 1 = 5) || decide (5 = 0)), PyData.bool (decide (c + 1 = 6) || decide (6 = 0)), PyData.bool (decide (c + 1 = 7) || decide (7 = 0)), PyData.bool (decide (c + 1 = 8) || decide (8 = 0)), PyData.bool (decide (c + 1 = 9) || decide (9 = 0))]) (q := [PyData.bool (decide (c + 1 = 10) || decide (10 = 0)), PyData.bool (decide (c + 1 = 11) || decide (11 = 0))]) (V_v rfl) (V_lst (qs := [PyData.bool (decide (c + 1 = 10) || decide (10 = 0)), PyData.bool (decide (c + 1 = 11) || decide (11 = 0))]) (Es_cons (hx 10 (by decide)) (Es_cons (hx 11 (by decide)) Es_nil)) (by show 2 ≤ 1000; decide)) (by show 11 ≤ 1000000; decide)) rfl]
  have at_ : ∀ k, k < 11 → ([PyData.bool (decide (c + 1 = 1) || decide (1 = 0)), PyData.bool (decide (c + 1 = 2) || decide (2 = 0)), PyData.bool (decide (c + 1 = 3) || decide (3 = 0)), PyData.bool (decide (c + 1 = 4) || decide (4 = 0)), PyData.bool (decide (c + 1 = 5) || decide (5 = 0)), PyData.bool (decide (c + 1 = 6) || decide (6 = 0)), PyData.bool (decide (c + 1 = 7) || decide (7 = 0)), PyData.bool (decide (c + 1 = 8) || decide (8 = 0)), PyData.bool (decide (c + 1 = 9) || decide (9 = 0)), PyData.bool (decide (c + 1 = 10) || decide (10 = 0)), PyData.bool (decide (c + 1 = 11) || decide (11 = 0))])[k]? = some (.bool (decide (c = k))) := by
    intro k hk
    have : k = 0 ∨ k = 1 ∨ k = 2 ∨ k = 3 ∨ k = 4 ∨ k = 5 ∨ k = 6 ∨ k = 7 ∨ k = 8 ∨ k = 9 ∨ k = 10 := by omega
    rcases this with rfl | rfl | rfl | rfl | rfl | rfl | rfl | rfl | rfl | rfl | rfl <;> simp
  have key := V_lcP (P := P) (e := [some (D.o n), some (D.p (.list [PyData.bool (decide (c + 1 = 1) || decide (1 = 0)), PyData.bool (decide (c + 1 = 2) || decide (2 = 0)), PyData.bool (decide (c + 1 = 3) || decide (3 = 0)), PyData.bool (decide (c + 1 = 4) || decide (4 = 0)), PyData.bool (decide (c + 1 = 5) || decide (5 = 0)), PyData.bool (decide (c + 1 = 6) || decide (6 = 0)), PyData.bool (decide (c + 1 = 7) || decide (7 = 0)), PyData.bool (decide (c + 1 = 8) || decide (8 = 0)), PyData.bool (decide (c + 1 = 9) || decide (9 = 0)), PyData.bool (decide (c + 1 = 10) || decide (10 = 0)), PyData.bool (decide (c + 1 = 11) || decide (11 = 0))])), none]) (s := s) (s1 := s) (it := .rng (.k (.int 11))) (tg := .nm 2) (ow := [2]) (el := .v 2) (c := .so (.ix (.v 1) (.v 2))) (fun (k : Nat) => Item.one (.p (.int (k : Int)))) (List.range 11) (fun k => decide (c = k)) (fun k => .int (k : Int)) (rng_l (n := 11) V_k (by decide)) (by rw [List.length_range]; decide) (fun k hk => by
    have hk := List.mem_range.mp hk
    refine ⟨[some (D.o n), some (D.p (.list [PyData.bool (decide (c + 1 = 1) || decide (1 = 0)), PyData.bool (decide (c + 1 = 2) || decide (2 = 0)), PyData.bool (decide (c + 1 = 3) || decide (3 = 0)), PyData.bool (decide (c + 1 = 4) || decide (4 = 0)), PyData.bool (decide (c + 1 = 5) || decide (5 = 0)), PyData.bool (decide (c + 1 = 6) || decide (6 = 0)), PyData.bool (decide (c + 1 = 7) || decide (7 = 0)), PyData.bool (decide (c + 1 = 8) || decide (8 = 0)), PyData.bool (decide (c + 1 = 9) || decide (9 = 0)), PyData.bool (decide (c + 1 = 10) || decide (10 = 0)), PyData.bool (decide (c + 1 = 11) || decide (11 = 0))])), some (D.p (.int (k : Int)))], rfl, B_so ?_, fun _ => V_v rfl⟩
    rw [ev_ix, V_v (d := .p (.list [PyData.bool (decide (c + 1 = 1) || decide (1 = 0)), PyData.bool (decide (c + 1 = 2) || decide (2 = 0)), PyData.bool (decide (c + 1 = 3) || decide (3 = 0)), PyData.bool (decide (c + 1 = 4) || decide (4 = 0)), PyData.bool (decide (c + 1 = 5) || decide (5 = 0)), PyData.bool (decide (c + 1 = 6) || decide (6 = 0)), PyData.bool (decide (c + 1 = 7) || decide (7 = 0)), PyData.bool (decide (c + 1 = 8) || decide (8 = 0)), PyData.bool (decide (c + 1 = 9) || decide (9 = 0)), PyData.bool (decide (c + 1 = 10) || decide (10 = 0)), PyData.bool (decide (c + 1 = 11) || decide (11 = 0))])) rfl, R.bind_ok, V_v (d := .p (.int (k : Int))) rfl, R.bind_ok]
    exact i_ix (asSq_l _) (atI_nat (pD_get (at_ k hk))))
  rw [range_one hc] at key
  exact st_ret key
/-! the law -/
def bT75 (c_l_thing c_l_caught c_l_marks : Nat) : Ss := (.cons (.asg (.nm 5) (.call c_l_thing (.cons (.v 1) .nil))) (.cons (.asg (.nm 6) (.call c_l_caught (.cons (.v 4) (.cons (.v 3) (.cons (.v 5) .nil))))) (.cons (.ifs (.orr (.cmp .ne (.call c_l_marks (.cons (.v 6) .nil)) (.lst false (.cons (.v 4) .nil))) (.nt (.isx (.v 6) none))) (.cons (.ret (.k (.bool false))) .nil) .nil) (.cons (.ifs (.cmp .gt (.v 4) (.k (.int 7))) (.cons (.ex (.app (.v 2) (.tup (.cons (.v 6) (.cons (.v 5) .nil))))) .nil) .nil) .nil))))
def bR75 (c_l_thing c_l_caught c_l_marks : Nat) : Ss := (.cons (.for_ (.nm 4) (.rng (.k (.int 11))) (.cons (.asg (.nm 5) (.call c_l_thing (.cons (.v 1) .nil))) (.cons (.asg (.nm 6) (.call c_l_caught (.cons (.v 4) (.cons (.v 3) (.cons (.v 5) .nil))))) (.cons (.ifs (.orr (.cmp .ne (.call c_l_marks (.cons (.v 6) .nil)) (.lst false (.cons (.v 4) .nil))) (.nt (.isx (.v 6) none))) (.cons (.ret (.k (.bool false))) .nil) .nil) (.cons (.ifs (.cmp .gt (.v 4) (.k (.int 7))) (.cons (.ex (.app (.v 2) (.tup (.cons (.v 6) (.cons (.v 5) .nil))))) .nil) .nil) .nil))))) .nil)
def Hd (s : Sto) (p c h n : Nat) : Prop := n < s.length ∧ n ≠ p ∧ n ≠ c ∧ n ≠ h ∧ ∃ x cx v, s[n]? = some (some (Cell.tup [.o x, .p v])) ∧ x ≠ p ∧ x ≠ c ∧ x ≠ h ∧ s[x]? = some (some (Cell.exn cx (some (.p v)))) ∧ cx < 12 ∧ RpOk v
def HI (s : Sto) (p c h m : Nat) : Prop := h ≠ p ∧ h ≠ c ∧ ∃ ids : List Nat, s[h]? = some (some (Cell.lst (ids.map D.o))) ∧ ids.length ≤ m ∧ ∀ n ∈ ids, Hd s p c h n
theorem lt_get {s : Sto} {n : Nat} {x : Option Cell} (h : s[n]? = some x) : n < s.length := (List.getElem?_eq_some_iff.mp h).1
theorem Hd.kp {s s' : Sto} {p c h n : Nat} (k : Kp p c s s') (H : Hd s p c h n) : Hd s' p c h n := by
  obtain ⟨a1, a2, a3, a4, x, cx, v, b1, b2, b3, b4, b5, b6, b7⟩ := H
  exact ⟨by rw [k.1]; exact a1, a2, a3, a4, x, cx, v, (k.2 n a2 a3).trans b1, b2, b3, b4, (k.2 x b2 b3).trans b5, b6, b7⟩
theorem HI.kp {s s' : Sto} {p c h m : Nat} (k : Kp p c s s') (H : HI s p c h m) : HI s' p c h m := by
  obtain ⟨h1, h2, ids, e, l, a⟩ := H
  exact ⟨h1, h2, ids, (k.2 h h1 h2).trans e, l, fun n hn => (a n hn).kp k⟩
theorem Hd.app {s : Sto} {p c h n : Nat} (t : Sto) (H : Hd s p c h n) : Hd (s ++ t) p c h n := by
  obtain ⟨a1, a2, a3, a4, x, cx, v, b1, b2, b3, b4, b5, b6, b7⟩ := H
  exact ⟨by rw [List.length_append]; omega, a2, a3, a4, x, cx, v, by rw [List.getElem?_append_left a1]; exact b1, b2, b3, b4, by rw [List.getElem?_append_left (lt_get b5)]; exact b5, b6, b7⟩
theorem HI.app {s : Sto} {p c h m : Nat} (t : Sto) (H : HI s p c h m) : HI (s ++ t) p c h m := by
  obtain ⟨h1, h2, ids, e, l, a⟩ := H
  exact ⟨h1, h2, ids, by rw [List.getElem?_append_left (lt_get e)]; exact e, l, fun n hn => (a n hn).app t⟩
theorem Hd.set {s : Sto} {p c h n : Nat} (x : Option Cell) (H : Hd s p c h n) : Hd (s.set h x) p c h n := by
  obtain ⟨a1, a2, a3, a4, z, cx, v, b1, b2, b3, b4, b5, b6, b7⟩ := H
  exact ⟨by rw [List.length_set]; exact a1, a2, a3, a4, z, cx, v, by rw [List.getElem?_set_ne (Ne.symm a4)]; exact b1, b2, b3, b4, by rw [List.getElem?_set_ne (Ne.symm b4)]; exact b5, b6, b7⟩
theorem step75 (P : Pg) {c_l_thing c_l_caught c_l_marks : Nat} (hS : Sb12 P) (ht : ThF (P.Φ c_l_thing)) (hc : CaF (P.Φ c_l_caught)) (hm : MkF75 (P.Φ c_l_marks)) {s : Sto} {p c h k m w y : Nat} (pu : Pu s p c (k + 2)) (hi : HI s p c h m) (hm9 : m < 1000) (hw : w < 11) (hy : y < 2) (v0 z5 z6 : Option D) : ∃ w5 w6 s', exs P (bT75 c_l_thing c_l_caught c_l_marks) [v0, some (D.o p), some (D.o h), some (D.p (.int (y : Int))), some (D.p (.int (w : Int))), z5, z6] s = .nx [v0, some (D.o p), some (D.o h), some (D.p (.int (y : Int))), some (D.p (.int (w : Int))), w5, w6] s' ∧ Pu s' p c k ∧ HI s' p c h (m + 1) := by
  obtain ⟨x, s1, e1, rx, pu1, kp1⟩ := ht pu
  have hi1 := hi.kp kp1
  have e2 := hc (s := s1) w y x hw hy rx
  have g := get_app s1 (some (Cell.exn (w + 1) (plC w x)))
  have pu2 := pu1.app (some (Cell.exn (w + 1) (plC w x)))
  have hi2 := hi1.app [some (Cell.exn (w + 1) (plC w x))]
  have e3 := hm (s := s1 ++ [some (Cell.exn (w + 1) (plC w x))]) (n := s1.length) (pl := plC w x) hw g
  unfold bT75
  rw [st_asg (e1 := [v0, some (D.o p), some (D.o h), some (D.p (.int (y : Int))), some (D.p (.int (w : Int))), some (D.p x), z6]) (V_c1 (V_v rfl) e1) rfl]
  rw [st_asg (e1 := [v0, some (D.o p), some (D.o h), some (D.p (.int (y : Int))), some (D.p (.int (w : Int))), some (D.p x), some (D.o s1.length)]) (V_c3 (V_v rfl) (V_v rfl) (V_v rfl) e2) rfl]
  have sh : SeqAt.shaped (.list [.int (w : Int)]) = true := rfl
  have c1 := B_neP (P := P) (e := [v0, some (D.o p), some (D.o h), some (D.p (.int (y : Int))), some (D.p (.int (w : Int))), some (D.p x), some (D.o s1.length)]) (s := s1 ++ [some (Cell.exn (w + 1) (plC w x))]) (a := (.call c_l_marks (.cons (.v 6) .nil))) (b := (.lst false (.cons (.v 4) .nil))) (V_c1 (V_v rfl) e3) (V_lst (Es_cons (V_v rfl) Es_nil) (by show 1 ≤ 1000; decide)) sh sh
  rw [eqv_self sh] at c1
  have c2 : ev P (.isx (.v 6) none) [v0, some (D.o p), some (D.o h), some (D.p (.int (y : Int))), some (D.p (.int (w : Int))), some (D.p x), some (D.o s1.length)] (s1 ++ [some (Cell.exn (w + 1) (plC w x))]) = .ok (.p (.bool true)) (s1 ++ [some (Cell.exn (w + 1) (plC w x))]) := B_isx (V_v rfl) (by
    unfold isiX
    simp only [cel_of g]
    rw [hS (w + 1) (by omega) (w + 1) (by omega)]
    rfl)
  rw [st_ifF (B_orr (x := false) (y := false) c1 fun _ => B_nt (x := true) c2), st_nil, RS.nxt_nx]
  by_cases h7 : 7 < w
  · rw [st_ifT ((B_gt (i := w) (j := 7) (V_v rfl) V_k).trans (by rw [decide_eq_true (show (7 : Int) < (w : Int) by omega)]))]
    have e7 : plC w x = some (.p x) := if_pos h7
    rw [e7] at g pu2 hi2 ⊢
    obtain ⟨n1, n2, ids, ge, gl, ga⟩ := hi2
    have et : ev P (.tup (.cons (.v 6) (.cons (.v 5) .nil))) [v0, some (D.o p), some (D.o h), some (D.p (.int (y : Int))), some (D.p (.int (w : Int))), some (D.p x), some (D.o s1.length)] (s1 ++ [some (Cell.exn (w + 1) (some (.p x)))]) = .ok (.o (s1 ++ [some (Cell.exn (w + 1) (some (D.p x)))]).length) (s1 ++ [some (Cell.exn (w + 1) (some (.p x)))] ++ [some (Cell.tup [.o s1.length, .p x])]) := by
      rw [ev_tup, evs_cons, V_v (d := .o s1.length) rfl, R.bind_ok, evs_cons, V_v (d := .p x) rfl, R.bind_ok, evs_nil, R.bind_ok, R.bind_ok, R.bind_ok]
      unfold mkT
      rw [if_pos (by show 2 ≤ 1000000; decide)]
      rfl
    have ge3 : (s1 ++ [some (Cell.exn (w + 1) (some (.p x)))] ++ [some (Cell.tup [.o s1.length, .p x])])[h]? = some (some (Cell.lst (ids.map D.o))) := by
      rw [List.getElem?_append_left (lt_get ge)]
      exact ge
    have ea : ev P (.app (.v 2) (.tup (.cons (.v 6) (.cons (.v 5) .nil)))) [v0, some (D.o p), some (D.o h), some (D.p (.int (y : Int))), some (D.p (.int (w : Int))), some (D.p x), some (D.o s1.length)] (s1 ++ [some (Cell.exn (w + 1) (some (.p x)))]) = .ok (.p .none) ((s1 ++ [some (Cell.exn (w + 1) (some (.p x)))] ++ [some (Cell.tup [.o s1.length, .p x])]).set h (some (Cell.lst (ids.map D.o ++ [.o (s1 ++ [some (Cell.exn (w + 1) (some (D.p x)))]).length])))) := by
      rw [ev_app, V_v (d := .o h) rfl, R.bind_ok, asL_o ge, rOr_some, et, R.bind_ok, i_app ge3 (by rw [List.length_map]; show _ < 1000000; omega)]
    rw [st_ex ea, st_nil, RS.nxt_nx, st_nil]
    have lp := pu1.lt
    have lh := lt_get ge
    rw [List.length_append] at lh
    have hne : h ≠ s1.length := fun z => by
      rw [z, get_app] at ge
      cases ge
    have lh2 : h < s1.length := by
      have : ([some (Cell.exn (w + 1) (some (D.p x)))] : Sto).length = 1 := rfl
      omega
    refine ⟨_, _, _, rfl, (pu2.app _).set n1 n2 _, n1, n2, ids ++ [(s1 ++ [some (Cell.exn (w + 1) (some (D.p x)))]).length], ?_, by rw [List.length_append]; show _ + 1 ≤ _; omega, fun n hn => ?_⟩
    · rw [List.getElem?_set_self (lt_get ge3), List.map_append]
      rfl
    · rcases List.mem_append.mp hn with hn | hn
      · exact ((ga n hn).app _).set _
      · rw [List.mem_singleton.mp hn]
        refine ⟨by simp only [List.length_set, List.length_append, List.length_cons, List.length_nil]; omega, by simp only [List.length_append, List.length_cons, List.length_nil]; omega, by simp only [List.length_append, List.length_cons, List.length_nil]; omega, by simp only [List.length_append, List.length_cons, List.length_nil]; omega, s1.length, w + 1, x, ?_, by omega, by omega, by omega, ?_, by omega, rx⟩
        · rw [List.getElem?_set_ne (by simp only [List.length_append, List.length_cons, List.length_nil]; omega), get_app]
        · rw [List.getElem?_set_ne (by omega), List.getElem?_append_left (by simp only [List.length_append, List.length_cons, List.length_nil]; omega)]
          exact g
  · rw [st_ifF ((B_gt (i := w) (j := 7) (V_v rfl) V_k).trans (by rw [decide_eq_false (show ¬ (7 : Int) < (w : Int) by omega)])), st_nil, RS.nxt_nx, st_nil]
    obtain ⟨n1, n2, ids, ge, gl, ga⟩ := hi2
    exact ⟨_, _, _, rfl, pu2, n1, n2, ids, ge, by omega, ga⟩
theorem round75 (P : Pg) {c_l_thing c_l_caught c_l_marks : Nat} (hS : Sb12 P) (ht : ThF (P.Φ c_l_thing)) (hc : CaF (P.Φ c_l_caught)) (hm : MkF75 (P.Φ c_l_marks)) {s : Sto} {p c h k m y : Nat} (pu : Pu s p c (k + 30)) (hi : HI s p c h m) (hm9 : m < 900) (hy : y < 2) (v0 z4 z5 z6 : Option D) : ∃ w4 w5 w6 s', exs P (bR75 c_l_thing c_l_caught c_l_marks) [v0, some (D.o p), some (D.o h), some (D.p (.int (y : Int))), z4, z5, z6] s = .nx [v0, some (D.o p), some (D.o h), some (D.p (.int (y : Int))), w4, w5, w6] s' ∧ Pu s' p c k ∧ HI s' p c h (m + 11) := by
  obtain ⟨e', s', hf, ⟨z4', z5', z6', rfl⟩, pu', hi'⟩ := forL_inv (f := fun x e1 s2 => bindS (.nm 4) x s2 e1 fun e2 => exs P (bT75 c_l_thing c_l_caught c_l_marks) e2 s2) (items := (List.range 11).map fun (k : Nat) => Item.one (.p (.int (k : Int)))) (fun i e s2 => (∃ z4 z5 z6, e = [v0, some (D.o p), some (D.o h), some (D.p (.int (y : Int))), z4, z5, z6]) ∧ Pu s2 p c (k + 30 - 2 * i) ∧ HI s2 p c h (m + i)) (by
    rintro i x e s2 hx ⟨⟨z4, z5, z6, rfl⟩, hp, hh⟩
    obtain ⟨hi, rfl⟩ := rng_get hx
    obtain ⟨w5, w6, s', e1, p1, q1⟩ := step75 P hS ht hc hm (k := k + 30 - 2 * (i + 1)) (w := i) (hp.le (by omega)) hh (by omega) hi hy v0 z5 z6
    exact ⟨_, s', e1, ⟨_, _, _, rfl⟩, p1, q1⟩) (e := [v0, some (D.o p), some (D.o h), some (D.p (.int (y : Int))), z4, z5, z6]) (s := s) ⟨⟨_, _, _, rfl⟩, pu, hi⟩
  rw [List.length_map, List.length_range] at pu' hi'
  refine ⟨z4', z5', z6', s', ?_, pu'.le (by omega), hi'⟩
  show exs P (.cons (.for_ (.nm 4) (.rng (.k (.int 11))) (bT75 c_l_thing c_l_caught c_l_marks)) .nil) _ s = _
  rw [st_for (show evi P (.rng (.k (.int 11))) _ _ = _ from rng_l (n := 11) V_k (by decide)) hf, st_nil]
def ways : List Nat := [0, 1, 0, 1, 0, 1, 0, 1]
theorem law75_ev (P : Pg) {c_l_purse c_l_thing c_l_caught c_l_marks : Nat} (hS : Sb12 P) (hpu : PurseF (P.Φ c_l_purse)) (ht : ThF (P.Φ c_l_thing)) (hc : CaF (P.Φ c_l_caught)) (hm : MkF75 (P.Φ c_l_marks)) (ns : List Int) (hn : ns.length ≤ 63) : ∃ s, runB P ⟨1, 7, b_law c_l_purse c_l_thing c_l_caught c_l_marks, true⟩ [.s (ns.map PyData.int)] [] = .ok (.p (.bool true)) s := by
  obtain ⟨p, c, s1, e1, pu1⟩ := hpu ns hn
  have l1 := pu1.lt
  have hi0 : HI (s1 ++ [some (Cell.lst [])]) p c s1.length 0 := ⟨by omega, by omega, [], get_app s1 _, Nat.le_refl _, fun n hn => by cases hn⟩
  have pu2 := pu1.app (some (Cell.lst []))
  obtain ⟨e', s', hf, ⟨z3', z4', z5', z6', rfl⟩, pu', hi'⟩ := forL_inv (f := fun x e1 s2 => bindS (.nm 3) x s2 e1 fun e2 => exs P (bR75 c_l_thing c_l_caught c_l_marks) e2 s2) (items := (ways.map fun (k : Nat) => PyData.int (k : Int)).map fun d => Item.one (.p d)) (fun i e s2 => (∃ z3 z4 z5 z6, e = [some (D.s (ns.map PyData.int)), some (D.o p), some (D.o s1.length), z3, z4, z5, z6]) ∧ Pu s2 p c (1000 - 30 * i) ∧ HI s2 p c s1.length (11 * i)) (by
    rintro i x e s2 hx ⟨⟨z3, z4, z5, z6, rfl⟩, hp, hh⟩
    rw [List.map_map, List.getElem?_map] at hx
    cases hz : ways[i]? with
    | none => rw [hz] at hx; cases hx
    | some y =>
      rw [hz] at hx
      cases hx
      have hi8 : i < 8 := (List.getElem?_eq_some_iff.mp hz).1
      have hy : y < 2 := by
        have := List.mem_of_getElem? hz
        simp only [ways, List.mem_cons, List.not_mem_nil, or_false] at this
        omega
      obtain ⟨w4, w5, w6, s', e1, p1, q1⟩ := round75 P hS ht hc hm (k := 1000 - 30 * (i + 1)) (y := y) (hp.le (by omega)) hh (by omega) hy (some (D.s (ns.map PyData.int))) z4 z5 z6
      exact ⟨_, s', e1, ⟨_, _, _, _, rfl⟩, p1, by rw [Nat.mul_add]; exact q1⟩) (e := [some (D.s (ns.map PyData.int)), some (D.o p), some (D.o s1.length), none, none, none, none]) (s := s1 ++ [some (Cell.lst [])]) ⟨⟨_, _, _, _, rfl⟩, pu2.le (by omega), hi0⟩
  refine ⟨[], ?_⟩
  obtain ⟨n1, n2, ids, ge, gl, ga⟩ := hi'
  have gl : ids.length ≤ 88 := gl
  have ex : exs P (b_law c_l_purse c_l_thing c_l_caught c_l_marks) (([.s (ns.map PyData.int)] : List D).map some ++ List.replicate (7 - ([.s (ns.map PyData.int)] : List D).length) none) [] = .rt (.p (.bool true)) ([] ++ s'.set s1.length none) := by
    show exs P (b_law c_l_purse c_l_thing c_l_caught c_l_marks) [some (D.s (ns.map PyData.int)), none, none, none, none, none, none] [] = _
    unfold b_law
    rw [st_asg (V_c1 (V_v rfl) e1) rfl]
    have el : ev P (.lst true .nil) [some (D.s (ns.map PyData.int)), some (D.o p), none, none, none, none, none] s1 = .ok (.o s1.length) (s1 ++ [some (Cell.lst [])]) := by
      simp only [ev, evs, R.bind_ok]
      rfl
    show exs P _ [some (D.s (ns.map PyData.int)), some (D.o p), none, none, none, none, none] s1 = _
    rw [st_asg (e1 := [some (D.s (ns.map PyData.int)), some (D.o p), some (D.o s1.length), none, none, none, none]) el rfl]
    have ew : ev P (.bin .mul false (.lst false (.cons (.k (.int 0)) (.cons (.k (.int 1)) .nil))) (.k (.int 4))) [some (D.s (ns.map PyData.int)), some (D.o p), some (D.o s1.length), none, none, none, none] (s1 ++ [some (Cell.lst [])]) = .ok (.p (.list (ways.map fun (k : Nat) => PyData.int (k : Int)))) (s1 ++ [some (Cell.lst [])]) := by
      rw [ev_bin, V_lst (qs := [.int 0, .int 1]) (Es_2 V_k V_k) (by show 2 ≤ 1000; decide), R.bind_ok, V_k, R.bind_ok, show ((4 : Int)) = ((4 : Nat) : Int) from rfl, b_rpt (by show 2 ≤ 100; decide) (by decide)]
      rfl
    show exs P (.cons (.for_ (.nm 3) (.seq (.bin .mul false (.lst false (.cons (.k (.int 0)) (.cons (.k (.int 1)) .nil))) (.k (.int 4)))) (bR75 c_l_thing c_l_caught c_l_marks)) (.cons (.ret (.cmp .eq (.lc false (.v 5) [6, 5] (.tp [6, 5]) (.seq (.v 2)) (.so (.cmp .ne (.bi .repr false (.fld (.v 6) "wrong")) (.bi .repr false (.v 5))))) (.lst false .nil))) .nil)) _ _ = _
    rw [st_for (it_lst ew) hf]
    refine st_ret ?_
    have key := V_lcP (P := P) (e := [some (D.s (ns.map PyData.int)), some (D.o p), some (D.o s1.length), z3', z4', z5', z6']) (s := s') (s1 := s'.set s1.length none) (it := .seq (.v 2)) (tg := .tp [6, 5]) (ow := [6, 5]) (el := .v 5) (c := (.so (.cmp .ne (.bi .repr false (.fld (.v 6) "wrong")) (.bi .repr false (.v 5))))) (fun n => Item.one (.o n)) ids (fun _ => false) (fun _ => .none) (by
      simp only [evi]
      rw [V_v (d := .o s1.length) rfl, R.bind_ok]
      dsimp only
      rw [cel_of ge]
      dsimp only
      rw [List.map_map]
      rfl) (by omega) (fun n hn => by
      obtain ⟨a1, a2, a3, a4, x, cx, v, b1, b2, b3, b4, b5, b6, b7⟩ := (ga n hn).set none
      refine ⟨[some (D.s (ns.map PyData.int)), some (D.o p), some (D.o s1.length), z3', z4', some (D.p v), some (D.o x)], ?_, B_so ?_, fun z => by cases z⟩
      · show (match asSq (s'.set s1.length none) (.o n) with
          | some ds => if [6, 5].length = ds.length then setAll [6, 5] ds (wipeE _ [6, 5]) else none
          | none => none) = _
        rw [asSq_tup b1]
        rfl
      · have e1 := V_wr (P := P) (e := [some (D.s (ns.map PyData.int)), some (D.o p), some (D.o s1.length), z3', z4', some (D.p v), some (D.o x)]) (s := s'.set s1.length none) (a := .v 6) (V_v rfl) b5 (by rw [hS cx b6 cx b6]; rfl)
        exact V_neS (V_reprD e1 (res_p _ _ _) b7) (V_reprD (V_v rfl) (res_p _ _ _) b7))
    rw [List.filter_eq_nil_iff.mpr fun _ _ => by simp] at key
    rw [ev_cmp, key, R.bind_ok, V_lst (qs := []) Es_nil (by show 0 ≤ 1000; decide), R.bind_ok]
    rfl
  exact run_app ex

end
end G

namespace G.A
open PySem PySem.Spec PyProof.Rows L2 G
noncomputable section
def top (i : Nat) : Stmt := PySem.Challenge.pw_cameposts_k75_refusals_made.main.body.getD i (.Pass ⟨0, 0, 0, 0⟩)
-- 0: _law_purse
abbrev s0 : Stmt := top 14
def b0 : Ss := (.cons (.asg (.nm 1) (.sl true (.v 0) .no (.so (.k (.int 63))))) (.cons (.for_ (.nm 2) (.rng (.bi .len false (.v 1))) (.cons (.ifs (.cmp .ge (.bi .abs false (.ix (.v 1) (.v 2))) (.bin .pow false (.k (.int 10)) (.k (.int 18)))) (.cons (.seti (.v 1) (.v 2) (.bin .mod false (.ix (.v 1) (.v 2)) (.bin .pow false (.bin .pow false (.k (.int 10)) (.k (.int 60))) (.k (.int 20))))) .nil) .nil) .nil)) (.cons (.ifs (.cmp .eq (.v 1) (.lst false .nil)) (.cons (.asg (.nm 1) (.lst true (.cons (.k (.int 0)) .nil))) .nil) .nil) (.cons (.ret (.lst false (.cons (.v 1) (.cons (.k (.int 0)) .nil)))) .nil))))
abbrev f0 : FnI := ⟨1, 3, b0, false⟩
def t0 : FnT := ⟨⟨("_law_purse", none), "_law_purse", "_law_purse", defArgs s0, defBody s0, defScope s0, [], []⟩, ["script", "cells", "j"], ["script"], f0⟩
theorem bd0 : BindT t0 := fun _ _ _ _ _ _ us hl => match us, hl with | [_], _ => rfl
-- 1: _law_draw
abbrev s1 : Stmt := top 15
def b1 : Ss := (.cons (.asg (.tp [5, 6]) (.v 0)) (.cons (.asg (.nm 2) (.bin .mod false (.v 6) (.bi .len false (.v 5)))) (.cons (.asg (.nm 3) (.ix (.v 5) (.v 2))) (.cons (.seti (.v 0) (.k (.int 1)) (.bin .add false (.v 6) (.k (.int 1)))) (.cons (.ifs (.cmp .ge (.v 3) (.bin .pow false (.k (.int 10)) (.k (.int 18)))) (.cons (.seti (.v 5) (.v 2) (.bin .fdiv false (.v 3) (.v 1))) (.cons (.ret (.bin .mod false (.v 3) (.v 1))) .nil)) .nil) (.cons (.asg (.nm 4) (.bin .mod false (.bin .add false (.bin .add false (.bin .mul false (.bin .mod false (.v 3) (.k (.int 2147483629))) (.k (.int 48271))) (.bin .mul false (.bin .mul false (.v 6) (.v 6)) (.k (.int 69621)))) (.k (.int 11))) (.k (.int 2147483647)))) (.cons (.asg (.nm 4) (.bin .mod false (.bin .mul false (.v 4) (.v 4)) (.k (.int 2147483629)))) (.cons (.asg (.nm 4) (.bin .mod false (.bin .mul false (.v 4) (.v 4)) (.k (.int 2147483587)))) (.cons (.ret (.bin .mod false (.v 4) (.v 1))) .nil)))))))))
abbrev f1 : FnI := ⟨2, 7, b1, true⟩
def t1 : FnT := ⟨⟨("_law_draw", none), "_law_draw", "_law_draw", defArgs s1, defBody s1, defScope s1, [], []⟩, ["purse", "out_of", "where", "cell", "figure", "cells", "went"], ["purse", "out_of"], f1⟩
theorem bd1 : BindT t1 := fun _ _ _ _ _ _ us hl => match us, hl with | [_, _], _ => rfl
-- 2: _law_pick
abbrev s2 : Stmt := top 16
def b2 : Ss := (.cons (.ret (.ix (.v 1) (.call 1 (.cons (.v 0) (.cons (.bi .len false (.v 1)) .nil))))) .nil)
abbrev f2 : FnI := ⟨2, 2, b2, true⟩
def t2 : FnT := ⟨⟨("_law_pick", none), "_law_pick", "_law_pick", defArgs s2, defBody s2, defScope s2, [], []⟩, ["purse", "some"], ["purse", "some"], f2⟩
theorem bd2 : BindT t2 := fun _ _ _ _ _ _ us hl => match us, hl with | [_, _], _ => rfl
-- 3: _law_thing
abbrev s3 : Stmt := top 17
def b3 : Ss := (.cons (.asg (.nm 1) (.call 1 (.cons (.v 0) (.cons (.k (.int 20)) .nil)))) (.cons (.asg (.nm 2) (.lst false (.cons (.tup (.cons (.k (.str "row")) .nil)) (.cons (.tup (.cons (.k (.str "deed")) (.cons (.v 1) .nil))) (.cons (.tup (.cons (.k (.str "standing")) .nil)) (.cons (.tup (.cons (.k (.str "posts")) .nil)) (.cons (.tup (.cons (.k (.str "post")) (.cons (.v 1) .nil))) (.cons (.tup (.cons (.k (.str "walkers")) .nil)) (.cons (.tup (.cons (.k (.str "walker")) (.cons (.v 1) .nil))) .nil))))))))) (.cons (.asg (.nm 2) (.bin .add false (.v 2) (.lst false (.cons (.tup (.cons (.k (.str "town")) .nil)) (.cons (.tup (.cons (.k (.str "bare")) (.cons (.v 1) .nil))) .nil))))) (.cons (.asg (.nm 2) (.bin .add false (.v 2) (.lst false (.cons (.k .none) (.cons (.k (.bool true)) (.cons (.k (.int 0)) (.cons (.bin .pow false (.k (.int 10)) (.k (.int 30))) (.cons (.k (.str "")) (.cons (.k (.str "row")) (.cons (.tup .nil) (.cons (.lst false .nil) (.cons (.tup (.cons (.k .none) .nil)) (.cons (.tup (.cons (.v 1) (.cons (.v 1) .nil))) (.cons (.lst false (.cons (.k (.str "deed")) (.cons (.v 1) .nil))) (.cons (.tup (.cons (.k (.str "deed")) (.cons (.v 1) (.cons (.lst false (.cons (.v 1) .nil)) .nil)))) .nil))))))))))))))) (.cons (.ret (.ix (.v 2) (.call 1 (.cons (.v 0) (.cons (.k (.int 21)) .nil))))) .nil)))))
abbrev f3 : FnI := ⟨1, 3, b3, true⟩
def t3 : FnT := ⟨⟨("_law_thing", none), "_law_thing", "_law_thing", defArgs s3, defBody s3, defScope s3, [], []⟩, ["purse", "k", "some"], ["purse"], f3⟩
theorem bd3 : BindT t3 := fun _ _ _ _ _ _ us hl => match us, hl with | [_], _ => rfl
-- 4: _law_marks
abbrev s4 : Stmt := top 18
def b4 : Ss := (.cons (.asg (.nm 1) (.lst false (.cons (.isx (.v 0) (some 1)) (.cons (.isx (.v 0) (some 2)) (.cons (.isx (.v 0) (some 3)) .nil))))) (.cons (.asg (.nm 1) (.bin .add false (.v 1) (.lst false (.cons (.isx (.v 0) (some 4)) (.cons (.isx (.v 0) (some 5)) (.cons (.isx (.v 0) (some 6)) .nil)))))) (.cons (.asg (.nm 1) (.bin .add false (.v 1) (.lst false (.cons (.isx (.v 0) (some 7)) (.cons (.isx (.v 0) (some 8)) (.cons (.isx (.v 0) (some 9)) .nil)))))) (.cons (.asg (.nm 1) (.bin .add false (.v 1) (.lst false (.cons (.isx (.v 0) (some 10)) (.cons (.isx (.v 0) (some 11)) .nil))))) (.cons (.ret (.lc false (.v 2) [2] (.nm 2) (.rng (.k (.int 11))) (.so (.ix (.v 1) (.v 2))))) .nil)))))
abbrev f4 : FnI := ⟨1, 3, b4, true⟩
def t4 : FnT := ⟨⟨("_law_marks", none), "_law_marks", "_law_marks", defArgs s4, defBody s4, defScope s4, [], []⟩, ["caught", "found", "k"], ["caught"], f4⟩
theorem bd4 : BindT t4 := fun _ _ _ _ _ _ us hl => match us, hl with | [_], _ => rfl
-- 5: _law_bare
abbrev s5 : Stmt := top 19
def b5 : Ss := (.cons (.ifs (.cmp .eq (.v 0) (.k (.int 0))) (.cons (.raise0 1) .nil) .nil) (.cons (.ifs (.cmp .eq (.v 0) (.k (.int 1))) (.cons (.raise0 2) .nil) .nil) (.cons (.ifs (.cmp .eq (.v 0) (.k (.int 2))) (.cons (.raise0 3) .nil) .nil) (.cons (.ifs (.cmp .eq (.v 0) (.k (.int 3))) (.cons (.raise0 4) .nil) .nil) (.cons (.ifs (.cmp .eq (.v 0) (.k (.int 4))) (.cons (.raise0 5) .nil) .nil) (.cons (.ifs (.cmp .eq (.v 0) (.k (.int 5))) (.cons (.raise0 6) .nil) .nil) (.cons (.ifs (.cmp .eq (.v 0) (.k (.int 6))) (.cons (.raise0 7) .nil) .nil) (.cons (.ifs (.cmp .eq (.v 0) (.k (.int 7))) (.cons (.raise0 8) .nil) .nil) .nil))))))))
abbrev f5 : FnI := ⟨1, 1, b5, true⟩
def t5 : FnT := ⟨⟨("_law_bare", none), "_law_bare", "_law_bare", defArgs s5, defBody s5, defScope s5, [], []⟩, ["which"], ["which"], f5⟩
theorem bd5 : BindT t5 := fun _ _ _ _ _ _ us hl => match us, hl with | [_], _ => rfl
-- 6: _law_texted
abbrev s6 : Stmt := top 20
def b6 : Ss := (.cons (.ifs (.cmp .eq (.v 0) (.k (.int 0))) (.cons (.raiseT 1 (.v 1)) .nil) .nil) (.cons (.ifs (.cmp .eq (.v 0) (.k (.int 1))) (.cons (.raiseT 2 (.v 1)) .nil) .nil) (.cons (.ifs (.cmp .eq (.v 0) (.k (.int 2))) (.cons (.raiseT 3 (.v 1)) .nil) .nil) (.cons (.ifs (.cmp .eq (.v 0) (.k (.int 3))) (.cons (.raiseT 4 (.v 1)) .nil) .nil) (.cons (.ifs (.cmp .eq (.v 0) (.k (.int 4))) (.cons (.raiseT 5 (.v 1)) .nil) .nil) (.cons (.ifs (.cmp .eq (.v 0) (.k (.int 5))) (.cons (.raiseT 6 (.v 1)) .nil) .nil) (.cons (.ifs (.cmp .eq (.v 0) (.k (.int 6))) (.cons (.raiseT 7 (.v 1)) .nil) .nil) (.cons (.ifs (.cmp .eq (.v 0) (.k (.int 7))) (.cons (.raiseT 8 (.v 1)) .nil) .nil) .nil))))))))
abbrev f6 : FnI := ⟨2, 2, b6, true⟩
def t6 : FnT := ⟨⟨("_law_texted", none), "_law_texted", "_law_texted", defArgs s6, defBody s6, defScope s6, [], []⟩, ["which", "line"], ["which", "line"], f6⟩
theorem bd6 : BindT t6 := fun _ _ _ _ _ _ us hl => match us, hl with | [_, _], _ => rfl
-- 7: _law_valued
abbrev s7 : Stmt := top 21
def b7 : Ss := (.cons (.ifs (.an (.cmp .eq (.v 0) (.k (.int 8))) (.cmp .eq (.v 1) (.k (.int 0)))) (.cons (.raiseV 9 0 (.v 2)) .nil) .nil) (.cons (.ifs (.an (.cmp .eq (.v 0) (.k (.int 9))) (.cmp .eq (.v 1) (.k (.int 0)))) (.cons (.raiseV 10 0 (.v 2)) .nil) .nil) (.cons (.ifs (.an (.cmp .eq (.v 0) (.k (.int 10))) (.cmp .eq (.v 1) (.k (.int 0)))) (.cons (.raiseV 11 0 (.v 2)) .nil) .nil) (.cons (.ifs (.cmp .eq (.v 0) (.k (.int 8))) (.cons (.raiseK 9 0 (.v 2)) .nil) .nil) (.cons (.ifs (.cmp .eq (.v 0) (.k (.int 9))) (.cons (.raiseK 10 0 (.v 2)) .nil) .nil) (.cons (.ifs (.cmp .eq (.v 0) (.k (.int 10))) (.cons (.raiseK 11 0 (.v 2)) .nil) .nil) .nil))))))
abbrev f7 : FnI := ⟨3, 3, b7, true⟩
def t7 : FnT := ⟨⟨("_law_valued", none), "_law_valued", "_law_valued", defArgs s7, defBody s7, defScope s7, [], []⟩, ["which", "way", "value"], ["which", "way", "value"], f7⟩
theorem bd7 : BindT t7 := fun _ _ _ _ _ _ us hl => match us, hl with | [_, _, _], _ => rfl
-- 8: _law_caught
abbrev s8 : Stmt := top 22
def b8 : Ss := (.cons (.asg (.nm 3) (.k .none)) (.cons (.tryC (.cons (.ifs (.cmp .gt (.v 0) (.k (.int 7))) (.cons (.ex (.call 7 (.cons (.v 0) (.cons (.v 1) (.cons (.v 2) .nil))))) .nil) .nil) (.cons (.ifs (.cmp .eq (.v 1) (.k (.int 0))) (.cons (.ex (.call 5 (.cons (.v 0) .nil))) .nil) .nil) (.cons (.ex (.call 6 (.cons (.v 0) (.cons (.bi .str false (.v 2)) .nil)))) .nil))) 0 4 3) (.cons (.ret (.v 3)) .nil)))
abbrev f8 : FnI := ⟨3, 5, b8, false⟩
def t8 : FnT := ⟨⟨("_law_caught", none), "_law_caught", "_law_caught", defArgs s8, defBody s8, defScope s8, [], []⟩, ["which", "way", "value", "caught", "e"], ["which", "way", "value"], f8⟩
theorem bd8 : BindT t8 := fun _ _ _ _ _ _ us hl => match us, hl with | [_, _, _], _ => rfl
-- 9: law
abbrev s9 : Stmt := top 23
def b9 : Ss := (.cons (.asg (.nm 1) (.call 0 (.cons (.v 0) .nil))) (.cons (.asg (.nm 2) (.lst true .nil)) (.cons (.for_ (.nm 3) (.seq (.bin .mul false (.lst false (.cons (.k (.int 0)) (.cons (.k (.int 1)) .nil))) (.k (.int 4)))) (.cons (.for_ (.nm 4) (.rng (.k (.int 11))) (.cons (.asg (.nm 5) (.call 3 (.cons (.v 1) .nil))) (.cons (.asg (.nm 6) (.call 8 (.cons (.v 4) (.cons (.v 3) (.cons (.v 5) .nil))))) (.cons (.ifs (.orr (.cmp .ne (.call 4 (.cons (.v 6) .nil)) (.lst false (.cons (.v 4) .nil))) (.nt (.isx (.v 6) none))) (.cons (.ret (.k (.bool false))) .nil) .nil) (.cons (.ifs (.cmp .gt (.v 4) (.k (.int 7))) (.cons (.ex (.app (.v 2) (.tup (.cons (.v 6) (.cons (.v 5) .nil))))) .nil) .nil) .nil))))) .nil)) (.cons (.ret (.cmp .eq (.lc false (.v 5) [6, 5] (.tp [6, 5]) (.seq (.v 2)) (.so (.cmp .ne (.bi .repr false (.fld (.v 6) "wrong")) (.bi .repr false (.v 5))))) (.lst false .nil))) .nil))))
abbrev f9 : FnI := ⟨1, 7, b9, true⟩
def t9 : FnT := ⟨⟨("law", none), "law", "law", defArgs s9, defBody s9, defScope s9, [], []⟩, ["script", "purse", "held", "way", "which", "value", "caught"], ["script"], f9⟩
theorem bd9 : BindT t9 := fun _ _ _ _ _ _ us hl => match us, hl with | [_], _ => rfl
def nms : List (Option Str) := [some ("_law_purse" : Str), some ("_law_draw" : Str), some ("_law_pick" : Str), some ("_law_thing" : Str), some ("_law_marks" : Str), some ("_law_bare" : Str), some ("_law_texted" : Str), some ("_law_valued" : Str), some ("_law_caught" : Str), some ("law" : Str)]
def clss : List ClI := []
def gls : List (Str × PyData) := []
def fr : List Str := ["ValueError", "abs", "isinstance", "len", "range", "repr", "str"]
abbrev x9 : Stmt := inClass (top 10) 0
def e9 : ExT := ⟨"NoRow", some (⟨("NoRow", some "__init__"), "__init__", "NoRow.__init__", defArgs x9, defBody x9, defScope x9, [], []⟩, "PostError")⟩
theorem be9 : BindE e9 := fun _ _ _ _ _ _ us hl => match us, hl with | [_, _], _ => ⟨rfl, rfl⟩
abbrev x10 : Stmt := inClass (top 11) 0
def e10 : ExT := ⟨"NoStanding", some (⟨("NoStanding", some "__init__"), "__init__", "NoStanding.__init__", defArgs x10, defBody x10, defScope x10, [], []⟩, "PostError")⟩
theorem be10 : BindE e10 := fun _ _ _ _ _ _ us hl => match us, hl with | [_, _], _ => ⟨rfl, rfl⟩
abbrev x11 : Stmt := inClass (top 12) 0
def e11 : ExT := ⟨"NoTown", some (⟨("NoTown", some "__init__"), "__init__", "NoTown.__init__", defArgs x11, defBody x11, defScope x11, [], []⟩, "PostError")⟩
theorem be11 : BindE e11 := fun _ _ _ _ _ _ us hl => match us, hl with | [_, _], _ => ⟨rfl, rfl⟩
def exs : List ExT := [⟨"PostError", none⟩, ⟨"NoChoice", none⟩, ⟨"NoEnd", none⟩, ⟨"NoGoers", none⟩, ⟨"NoName", none⟩, ⟨"NoNumber", none⟩, ⟨"NoPair", none⟩, ⟨"NoPlace", none⟩, ⟨"NoWishes", none⟩, e9, e10, e11]
def sbt : List (List Bool) := [[true, false, false, false, false, false, false, false, false, false, false, false], [true, true, false, false, false, false, false, false, false, false, false, false], [true, false, true, false, false, false, false, false, false, false, false, false], [true, false, false, true, false, false, false, false, false, false, false, false], [true, false, false, false, true, false, false, false, false, false, false, false], [true, false, false, false, false, true, false, false, false, false, false, false], [true, false, false, false, false, false, true, false, false, false, false, false], [true, false, false, false, false, false, false, true, false, false, false, false], [true, false, false, false, false, false, false, false, true, false, false, false], [true, false, false, false, false, false, false, false, false, true, false, false], [true, false, false, false, false, false, false, false, false, false, true, false], [true, false, false, false, false, false, false, false, false, false, false, true]]
theorem be : AllT BindE exs := ⟨True.intro, True.intro, True.intro, True.intro, True.intro, True.intro, True.intro, True.intro, True.intro, be9, be10, be11, trivial⟩
def law : LawT := ⟨[t0, t1, t2, t3, t4, t5, t6, t7, t8, t9], nms, clss, gls, fr, exs, sbt⟩
theorem st : law.st = true := by kernel_rfl
theorem bd : AllT BindT law.fts := ⟨bd0, bd1, bd2, bd3, bd4, bd5, bd6, bd7, bd8, bd9, trivial⟩
def lo0 : List PySem.Str := ["PostError", "NoChoice", "NoEnd", "NoGoers", "NoName", "NoNumber", "NoPair", "NoPlace", "NoWishes", "NoRow", "NoStanding", "NoTown", "_law_purse", "_law_draw", "_law_pick", "_law_thing", "_law_marks", "_law_bare", "_law_texted", "_law_valued"]
def lo1 : List PySem.Str := ["_law_caught"]
def loose : List PySem.Str := lo0 ++ lo1

abbrev R : PySem.W.OpenRow := PySem.W.OpenLaw.row PySem.Challenge.rw_cameposts_k75_refusals_made
abbrev hk : PySem.W.Hook := hookK 6 law.ok law.fn
def ob (s : PySem.W.SharedT) : He.AlD := obsT 6 law.ok law.fn (HandSHeadRun.getT s)
theorem ob_eq (s : PySem.W.SharedT) : ob s = hk.obs s.abs := obsT_eq (HandSHeadRun.getT_eq s)
theorem rn (w : World) : HandSHeadRun.RunEq R (PySem.W.view R.prog [23]) hk ob 8000 loose w := by
  intro os
  kernel_rfl


abbrev pg (n : Nat) : Pg := pgOf law.sb law.tb law.gl 5000 n
theorem run_at {f n : Nat} {F : FnI} {args : List D} {s : Sto} (h : law.tb[f]? = some F) (hl : args.length = F.n) : (pg (n + 1)).Φ f args s = runB (pg n) F args s := by
  show run law.sb law.tb law.gl 5000 (n + 1) f args s = _
  simp only [run, h]
  exact if_pos hl
theorem sb12 (n : Nat) : Sb12 (pg n) := by
  have h : ∀ c, c < 12 → ∀ k, k < 12 → law.sb c k = some (decide (c = k) || decide (k = 0)) := by decide +kernel
  exact h
theorem j_purse (n : Nat) : PurseF ((pg (n + 1)).Φ 0) := fun h0 h1 => by rw [run_at (F := f0) rfl rfl]; exact purse_run (pg n)  h0 h1
theorem j_draw (n : Nat) : DrawF ((pg (n + 1)).Φ 1) := fun h0 h1 h2 => by rw [run_at (F := f1) rfl rfl]; exact draw2_run (pg n)  h0 h1 h2
theorem j_thing (n : Nat) : ThF ((pg (n + 2)).Φ 3) := fun h0 => by rw [run_at (F := f3) rfl rfl]; exact thing_run (pg (n + 1)) (j_draw n) h0
theorem j_valued (n : Nat) : ValF ((pg (n + 1)).Φ 7) := fun h0 h1 h2 h3 h4 h5 => by rw [run_at (F := f7) rfl rfl]; exact valued_run (pg n)  h0 h1 h2 h3 h4 h5
theorem j_bare (n : Nat) : BareF ((pg (n + 1)).Φ 5) := fun h0 h1 => by rw [run_at (F := f5) rfl rfl]; exact bare_run (pg n)  h0 h1
theorem j_texted (n : Nat) : TexF ((pg (n + 1)).Φ 6) := fun h0 h1 h2 => by rw [run_at (F := f6) rfl rfl]; exact texted_run (pg n)  h0 h1 h2
theorem j_caught (n : Nat) : CaF ((pg (n + 2)).Φ 8) := fun h0 h1 h2 h3 h4 h5 => by rw [run_at (F := f8) rfl rfl]; exact caught_run (pg (n + 1)) (sb12 _) (j_valued n) (j_bare n) (j_texted n) h0 h1 h2 h3 h4 h5
theorem j_marks (n : Nat) : MkF75 ((pg (n + 1)).Φ 4) := fun h0 h1 => by rw [run_at (F := f4) rfl rfl]; exact marks75_run (pg n) (sb12 _) h0 h1
theorem mainL (ns : List Int) (hn : ns.length ≤ 63) : ∃ s, run law.sb law.tb law.gl 5000 (39 + 1) 9 [.s (ns.map PyData.int)] [] = .ok (.p (.bool true)) s := by
  obtain ⟨s, e⟩ := law75_ev (pg 39) (sb12 _) (j_purse 38) (j_thing 37) (j_caught 37) (j_marks 38) ns hn
  exact ⟨s, (run_at (f := 9) (n := 39) (F := f9) rfl rfl).trans e⟩
end
end G.A
open PySem PySem.W PySem.Calls PyProof.Rows
theorem law_holds (main : ∀ ns : List Int, ns.length ≤ 63 → ∃ s, G.run G.A.law.sb G.A.law.tb G.A.law.gl 5000 (39 + 1) 9 [.s (ns.map PySem.PyData.int)] [] = .ok (.p (.bool true)) s) : PySem.Challenge.rw_cameposts_k75_refusals_made.Holds := by
  w_on; o_law
  refine HandSHeadRun.head_any (r := OpenLaw.row PySem.Challenge.rw_cameposts_k75_refusals_made) (q := view (OpenLaw.row PySem.Challenge.rw_cameposts_k75_refusals_made).prog [23]) (H := G.A.hk) (ob := G.A.ob) (M := 8000) (loose := G.A.loose) (d := HandSHeadRun.topDef (OpenLaw.row PySem.Challenge.rw_cameposts_k75_refusals_made).prog 23) (kwd := []) G.A.ob_eq
    (by kernel_rfl) (fun s => by kernel_rfl) G.A.rn (by kernel_rfl) (by kernel_rfl) (by kernel_rfl) (by rfl) (by first | assumption | decide +kernel) (by decide +kernel) ⟨rfl, rfl, rfl, rfl, rfl, by decide +kernel⟩ ?hw ?hc
  case hw => w_witness2
  case hc => exact G.law_end (t := G.A.t9) (fL := 9) (W := 5000) (n := 39) rfl (by kernel_rfl) ⟨rfl, by decide, by decide⟩ G.A.st G.A.bd G.A.be rfl rfl (by kernel_rfl) main


theorem PySem.Challenge.cw_cameposts_k75_refusals_made_holds : PySem.Challenge.rw_cameposts_k75_refusals_made.Holds :=
  law_holds G.A.mainL
