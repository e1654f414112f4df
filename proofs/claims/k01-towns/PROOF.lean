import PyProof.Rows.All
import Wide.All
import OpenK.AllK
import Wide.FinOn
import KE.KStateDown
import HandS.Base
import HandS.Call
import HandS.List
import HandS.Comp
import HandS.Dict
import HandS.Iter
import HandS.Text
import HandS.Ends
import HandS.More
import HandS.Exc
import HandS.TryOnly
import HandS.ExcOwn
import HandS.ExcInit
import HandS.Words
import HandS.WordsExc
import HandS.IsInst
import HandS.Wide
import HandS.Defaults
import HandS.Deep
import HandS.Style
import HandS.ExcField
import KE.KExcIs
import HandS.HeadHook1
import HandS.Head0
import HandS.Head1
import HandS.Head2
import HandS.HeadEnd
import HandS.HeadHook2
import PySem.Challenge.RW_cameposts_k01_towns_looked_at
set_option Elab.async false
set_option autoImplicit false
set_option linter.all false
set_option maxRecDepth 100000
set_option maxHeartbeats 4000000
/-! G: a small language of values (frozen data, cells of a store) in which the defs are run; what it leans on of the heap. -/
namespace G
open PySem PySem.Spec PyProof.Rows L2

def LIM : Nat := 1000000
theorem lim_le {n : Nat} (h : n ≤ LIM) : n ≤ sizeLine := Nat.le_trans h (by decide)
theorem lim_lt {n : Nat} (h : n < LIM) : n < sizeLine := Nat.lt_of_lt_of_le h (by decide)

/-! ### values, cells, stores -/
inductive D where
  | p (d : PyData)
  | o (n : Nat)
  | s (l : List PyData)
inductive Cell where
  | lst (xs : List D)
  | tup (xs : List D)
  | dct (kvs : List (Key × D))
  | ins (k : Nat) (fs : List (Str × D))
  | exn (k : Nat) (pl : Option D)
abbrev Sto := List (Option Cell)
abbrev Env := List (Option D)
structure Xn where
  c : Nat
  pl : Option D
inductive R (α : Type) where
  | ok (a : α) (s : Sto)
  | exc (x : Xn) (s : Sto)
  | bad
def R.bind {α β : Type} (r : R α) (f : α → Sto → R β) : R β := match r with
  | .ok a s => f a s
  | .exc x s => .exc x s
  | .bad => .bad
@[simp] theorem R.bind_ok {α β : Type} (a : α) (s : Sto) (f : α → Sto → R β) : (R.ok a s).bind f = f a s := rfl
@[simp] theorem R.bind_exc {α β : Type} (x : Xn) (s : Sto) (f : α → Sto → R β) : (R.exc x s : R α).bind f = .exc x s := rfl
@[simp] theorem R.bind_bad {α β : Type} (f : α → Sto → R β) : (R.bad : R α).bind f = .bad := rfl

theorem R.bind_assoc {α β γ : Type} (r : R α) (f : α → Sto → R β) (g : β → Sto → R γ) : (r.bind f).bind g = r.bind fun a s => (f a s).bind g := by
  cases r <;> rfl
def mapO {α β : Type} (f : α → Option β) : List α → Option (List β)
  | [] => some []
  | x :: xs => match f x, mapO f xs with
    | some y, some ys => some (y :: ys)
    | _, _ => none
def pOf : D → Option PyData
  | .p d => some d
  | _ => none
def allP (xs : List D) : Option (List PyData) := mapO pOf xs
theorem mapO_some {α β : Type} {f : α → Option β} : ∀ {l : List α} {r : List β}, mapO f l = some r → Paired (fun a b => f a = some b) l r
  | [], r, h => by
    cases h
    exact .nil
  | x :: xs, r, h => by
    simp only [mapO] at h
    cases e1 : f x with
    | none => rw [e1] at h; cases h
    | some y =>
      cases e2 : mapO f xs with
      | none => rw [e1, e2] at h; cases h
      | some ys =>
        rw [e1, e2] at h
        cases h
        exact .cons e1 (mapO_some e2)
theorem mapO_of {α β : Type} {f : α → Option β} : ∀ {l : List α} {r : List β}, Paired (fun a b => f a = some b) l r → mapO f l = some r
  | _, _, .nil => rfl
  | _, _, .cons h t => by simp only [mapO, h, mapO_of t]
theorem mapO_map {α β γ : Type} (f : β → Option γ) (g : α → β) (h : α → γ) (e : ∀ a, f (g a) = some (h a)) : ∀ l : List α, mapO f (l.map g) = some (l.map h)
  | [] => rfl
  | x :: xs => by simp only [List.map, mapO, e, mapO_map f g h e xs]
theorem allP_map (ds : List PyData) : allP (ds.map .p) = some ds := by
  have := mapO_map pOf D.p id (fun _ => rfl) ds
  simpa [allP] using this
theorem allP_some {xs : List D} {ds : List PyData} (h : allP xs = some ds) : xs = ds.map .p := by
  have q := mapO_some h
  clear h
  induction q with
  | nil => rfl
  | cons h t ih =>
    rename_i a b l1 l2
    cases a with
    | p d => cases h; rw [ih]; rfl
    | o n => cases h
    | s l => cases h

/-- the cell -/
def cel (s : Sto) (n : Nat) : Option Cell := match s[n]? with
  | some (some x) => some x
  | _ => none
theorem cel_some {s : Sto} {n : Nat} {x : Cell} (h : cel s n = some x) : s[n]? = some (some x) := by
  unfold cel at h
  split at h
  · cases h; assumption
  · cases h
/-- a list's items, a tuple's -/
def asL (s : Sto) : D → Option (List D)
  | .p (.list ds) => some (ds.map .p)
  | .o n => match cel s n with
    | some (.lst xs) => some xs
    | _ => none
  | _ => none
def asT (s : Sto) : D → Option (List D)
  | .p (.tuple ds) => some (ds.map .p)
  | .o n => match cel s n with
    | some (.tup xs) => some xs
    | _ => none
  | _ => none
/-- what stands behind it, all the way down -/
def res : Nat → Sto → D → Option PyData
  | _, _, .p d => some d
  | _, _, .s _ => none
  | 0, _, .o _ => none
  | k + 1, s, .o n => match cel s n with
    | some (.lst xs) => (mapO (res k s) xs).map .list
    | some (.tup xs) => (mapO (res k s) xs).map .tuple
    | _ => none
@[simp] theorem res_p (k : Nat) (s : Sto) (d : PyData) : res k s (.p d) = some d := by cases k <;> rfl
/-- the same, the cells taken out of the store -/
def frzL (f : D → Sto → Option (PyData × Sto)) : List D → Sto → Option (List PyData × Sto)
  | [], s => some ([], s)
  | x :: xs, s => match f x s with
    | some (d, s1) => (match frzL f xs s1 with
      | some (ds, s2) => some (d :: ds, s2)
      | none => none)
    | none => none
def frz : Nat → D → Sto → Option (PyData × Sto)
  | _, .p d, s => some (d, s)
  | _, .s _, _ => none
  | 0, .o _, _ => none
  | k + 1, .o n, s => match cel s n with
    | some (.lst xs) => (match frzL (frz k) xs (s.set n none) with
      | some (ds, s1) => some (.list ds, s1)
      | none => none)
    | some (.tup xs) => (match frzL (frz k) xs (s.set n none) with
      | some (ds, s1) => some (.tuple ds, s1)
      | none => none)
    | _ => none
def mkL (fl : Bool) (xs : List D) (s : Sto) : R D := if xs.length ≤ LIM then (match fl, allP xs with
  | false, some ds => .ok (.p (.list ds)) s
  | _, _ => .ok (.o s.length) (s ++ [some (.lst xs)])) else .bad
def mkT (xs : List D) (s : Sto) : R D := if xs.length ≤ LIM then (match allP xs with
  | some ds => .ok (.p (.tuple ds)) s
  | none => .ok (.o s.length) (s ++ [some (.tup xs)])) else .bad

/-! ### what stands in the heap for them -/
mutual
/-- frozen data: its lists stand in F themselves -/
inductive Dq (K : PySem.W.Frag) (F : Hp) : V → PyData → Prop
  | non : Dq K F .non .none
  | bl (b : Bool) : Dq K F (.bl b) (.bool b)
  | int (i : Int) : Dq K F (.int i) (.int i)
  | str (x : Str) : Dq K F (.str x) (.str x)
  | lst {a : Addr} {xs : List V} {ds : List PyData} : F a = some (.lst xs) → DqAll K F xs ds → Dq K F (.ref a) (.list ds)
  | tup {a : Addr} {xs : List V} {ds : List PyData} : SqT K F a xs → DqAll K F xs ds → Dq K F (.ref a) (.tuple ds)
inductive DqAll (K : PySem.W.Frag) (F : Hp) : List V → List PyData → Prop
  | nil : DqAll K F [] []
  | cons {v : V} {vs : List V} {d : PyData} {ds : List PyData} : Dq K F v d → DqAll K F vs ds → DqAll K F (v :: vs) (d :: ds)
end
structure Cf where
  F : Hp
  ι : List Addr
section
variable (K : PySem.W.Frag)
def RepV (c : Cf) : D → V → Prop
  | .p d, v => Dq K c.F v d
  | .o n, v => ∃ a, c.ι[n]? = some a ∧ v = .ref a
  | .s l, v => ∃ a vs, v = .ref a ∧ SqL K c.F a vs ∧ DqAll K c.F vs l
abbrev RepVs (c : Cf) : List D → List V → Prop := Paired (RepV K c)

end
end G

namespace G
open PySem PySem.Spec PyProof.Rows L2
section
variable {K : PySem.W.Frag} {cA : Nat → Addr}

theorem seqT_mono {H H' : Hp} {a : Addr} {xs : List V} (e : Same H H') (h : SqT K H a xs) : SqT K H' a xs := by
  rcases h with (h | ⟨o, h⟩) | h
  · exact .inl (.inl (e _ _ h))
  · exact .inl (.inr ⟨o, e _ _ h⟩)
  · exact .inr h
mutual
theorem dq_mono {F F' : Hp} (e : Same F F') : ∀ {v : V} {d : PyData}, Dq K F v d → Dq K F' v d
  | _, _, .non => .non
  | _, _, .bl b => .bl b
  | _, _, .int i => .int i
  | _, _, .str x => .str x
  | _, _, .lst h t => .lst (e _ _ h) (dqAll_mono e t)
  | _, _, .tup h t => .tup (seqT_mono e h) (dqAll_mono e t)
theorem dqAll_mono {F F' : Hp} (e : Same F F') : ∀ {vs : List V} {ds : List PyData}, DqAll K F vs ds → DqAll K F' vs ds
  | _, _, .nil => .nil
  | _, _, .cons h t => .cons (dq_mono e h) (dqAll_mono e t)
end
mutual
theorem dq_dp {F : Hp} : ∀ {v : V} {d : PyData}, Dq K F v d → Dp K F v d
  | _, _, .non => .non
  | _, _, .bl b => .bl b
  | _, _, .int i => .int i
  | _, _, .str x => .str x
  | _, _, .lst h t => .lst (SqL.of h) (dqAll_dp t)
  | _, _, .tup h t => .tup h (dqAll_dp t)
theorem dqAll_dp {F : Hp} : ∀ {vs : List V} {ds : List PyData}, DqAll K F vs ds → DpAll K F vs ds
  | _, _, .nil => .nil
  | _, _, .cons h t => .cons (dq_dp h) (dqAll_dp t)
end
theorem dqAll_of {c : Cf} : ∀ {ds : List PyData} {vs : List V}, RepVs K c (ds.map .p) vs → DqAll K c.F vs ds
  | [], _, .nil => .nil
  | _ :: _, _, .cons h t => .cons h (dqAll_of t)
theorem repVs_of {c : Cf} : ∀ {ds : List PyData} {vs : List V}, DqAll K c.F vs ds → RepVs K c (ds.map .p) vs
  | _, _, .nil => .nil
  | _, _, .cons h t => .cons h (repVs_of t)

structure Ext (c : Cf) (H : Hp) (c' : Cf) (H' : Hp) : Prop where
  f : Same c.F c'.F
  i : c.ι <+: c'.ι
  k : ∀ a o, H a = some o → c.F a = none → a ∉ c.ι → H' a = some o ∧ c'.F a = none ∧ a ∉ c'.ι
theorem Ext.refl (c : Cf) (H : Hp) : Ext c H c H := ⟨Same.refl _, List.prefix_refl _, fun _ _ h1 h2 h3 => ⟨h1, h2, h3⟩⟩
theorem Ext.trans {c c1 c2 : Cf} {H H1 H2 : Hp} (a : Ext c H c1 H1) (b : Ext c1 H1 c2 H2) : Ext c H c2 H2 :=
  ⟨a.f.trans b.f, a.i.trans b.i, fun x o h1 h2 h3 => by
    obtain ⟨g1, g2, g3⟩ := a.k x o h1 h2 h3
    exact b.k x o g1 g2 g3⟩
theorem Ext.ix {c c' : Cf} {H H' : Hp} (e : Ext c H c' H') {n : Nat} {a : Addr} (h : c.ι[n]? = some a) : c'.ι[n]? = some a := by
  obtain ⟨t, q⟩ := e.i
  rw [← q, List.getElem?_append_left]
  · exact h
  · exact (List.getElem?_eq_some_iff.mp h).1
theorem RepV.mono {c c' : Cf} {H H' : Hp} (e : Ext c H c' H') : ∀ {d : D} {v : V}, RepV K c d v → RepV K c' d v
  | .p _, _, h => dq_mono e.f h
  | .o _, _, ⟨a, h, q⟩ => ⟨a, e.ix h, q⟩
  | .s _, _, ⟨a, vs, h, q, r⟩ => ⟨a, vs, h, e.f.seq q, dqAll_mono e.f r⟩
theorem RepVs.mono {c c' : Cf} {H H' : Hp} (e : Ext c H c' H') : ∀ {ds : List D} {vs : List V}, RepVs K c ds vs → RepVs K c' ds vs
  | _, _, .nil => .nil
  | _, _, .cons h t => .cons (h.mono e) (RepVs.mono e t)

def exnO (a C : Addr) (d : Option Addr) : HO := .ext fun h => ∃ oe vs, h.get? a = some oe ∧ oe.cls = .ref C ∧ oe.dict = d ∧ oe.data = .fields vs
def RepK (K : PySem.W.Frag) (c : Cf) {κ : Type} : List (κ × D) → List (κ × V) → Prop := Paired fun p q => p.1 = q.1 ∧ RepV K c p.2 q.2
def RepC (K : PySem.W.Frag) (cA : Nat → Addr) (c : Cf) (a : Addr) : Cell → HO → Prop
  | .lst xs, u => ∃ vs, u = .lst vs ∧ RepVs K c xs vs
  | .tup xs, u => ∃ vs, u = .tup vs ∧ RepVs K c xs vs
  | .dct kvs, u => ∃ ws, u = .dK ws ∧ RepK K c kvs ws
  | .ins k fs, u => ∃ dx ws, u = .ins (cA k) dx ws ∧ RepK K c fs ws
  | .exn k pl, u => ∃ dd, u = exnO a (cA k) dd ∧ (match pl with
    | none => dd = none
    | some d => ∃ b v, dd = some b ∧ c.F b = some (.xd [(("wrong" : Str), v)]) ∧ RepV K c d v)
structure Rep (K : PySem.W.Frag) (cA : Nat → Addr) (c : Cf) (H : Hp) (s : Sto) : Prop where
  sub : Same c.F H
  len : c.ι.length = s.length
  nd : c.ι.Nodup
  dom : ∀ a ∈ c.ι, H a ≠ none
  cell : ∀ (n : Nat) (x : Cell) (a : Addr), s[n]? = some (some x) → c.ι[n]? = some a → c.F a = none ∧ ∃ u, H a = some u ∧ RepC K cA c a x u

theorem RepK.mono {κ : Type} {c c' : Cf} {H H' : Hp} (e : Ext c H c' H') : ∀ {ds : List (κ × D)} {vs : List (κ × V)}, RepK K c ds vs → RepK K c' ds vs
  | _, _, .nil => .nil
  | _, _, .cons h t => .cons ⟨h.1, h.2.mono e⟩ (RepK.mono e t)
theorem RepC.mono {c c' : Cf} {H H' : Hp} (e : Ext c H c' H') {a : Addr} {x : Cell} {u : HO} (h : RepC K cA c a x u) : RepC K cA c' a x u := by
  cases x with
  | lst xs => obtain ⟨vs, q, r⟩ := h; exact ⟨vs, q, r.mono e⟩
  | tup xs => obtain ⟨vs, q, r⟩ := h; exact ⟨vs, q, r.mono e⟩
  | dct xs => obtain ⟨vs, q, r⟩ := h; exact ⟨vs, q, RepK.mono e r⟩
  | ins k fs => obtain ⟨dx, vs, q, r⟩ := h; exact ⟨dx, vs, q, RepK.mono e r⟩
  | exn k pl =>
    obtain ⟨dd, q, r⟩ := h
    refine ⟨dd, q, ?_⟩
    cases pl with
    | none => trivial
    | some d =>
      obtain ⟨b, v, r1, r2, r3⟩ := r
      exact ⟨b, v, r1, e.f _ _ r2, r3.mono e⟩

variable {c c' : Cf} {H H' : Hp} {s : Sto}
theorem Rep.fresh (r : Rep K cA c H s) {p : Addr} (h : H p = none) : c.F p = none ∧ p ∉ c.ι := by
  refine ⟨?_, fun m => r.dom p m h⟩
  cases q : c.F p with
  | none => rfl
  | some o =>
    rw [r.sub p o q] at h
    cases h
/-- a new object stands beside -/
theorem Rep.grow (r : Rep K cA c H s) {p : Addr} {u : HO} (h : H p = none) : Rep K cA c (upd H p u) s := by
  obtain ⟨f1, f2⟩ := r.fresh h
  refine ⟨fun a o q => ?_, r.len, r.nd, fun a m => ?_, fun n x a h1 h2 => ?_⟩
  · rw [upd_ne (ne_of_none (r.sub a o q) h)]
    exact r.sub a o q
  · by_cases e : a = p
    · rw [e, upd_same]; simp
    · rw [upd_ne e]; exact r.dom a m
  · obtain ⟨g1, u', g2, g3⟩ := r.cell n x a h1 h2
    refine ⟨g1, u', ?_, g3⟩
    rw [upd_ne (ne_of_none g2 h)]
    exact g2
theorem Ext.grow {p : Addr} {u : HO} (h : H p = none) : Ext c H c (upd H p u) :=
  ⟨Same.refl _, List.prefix_refl _, fun a o h1 h2 h3 => ⟨by rw [upd_ne (ne_of_none h1 h)]; exact h1, h2, h3⟩⟩
/-- .. and is taken into the frozen part -/
theorem Rep.adF (r : Rep K cA c H s) {p : Addr} {u : HO} (h : H p = some u) (hf : c.F p = none) (hi : p ∉ c.ι) : Rep K cA ⟨upd c.F p u, c.ι⟩ H s := by
  have e : Ext c (fun _ => none) ⟨upd c.F p u, c.ι⟩ H := ⟨fun a o q => by
    show upd c.F p u a = some o
    rw [upd_ne (ne_of_none q hf)]
    exact q, List.prefix_refl _, fun a o z => by cases z⟩
  refine ⟨fun a o q => ?_, r.len, r.nd, r.dom, fun n x a h1 h2 => ?_⟩
  · have q' : upd c.F p u a = some o := q
    by_cases z : a = p
    · subst z
      rw [upd_same] at q'
      cases q'
      exact h
    · rw [upd_ne z] at q'
      exact r.sub a o q'
  · obtain ⟨g1, u', g2, g3⟩ := r.cell n x a h1 h2
    have ne : a ≠ p := fun z => hi (z ▸ List.mem_of_getElem? h2)
    refine ⟨?_, u', g2, g3.mono e⟩
    show upd c.F p u a = none
    rw [upd_ne ne]
    exact g1
theorem Ext.adF {c0 : Cf} {H0 : Hp} (e : Ext c0 H0 c H) {p : Addr} {u : HO} (hf : c.F p = none) (h0 : H0 p = none) : Ext c0 H0 ⟨upd c.F p u, c.ι⟩ H := by
  refine ⟨fun a o q => ?_, e.i, fun a o h1 h2 h3 => ?_⟩
  · show upd c.F p u a = some o
    have q' := e.f a o q
    rw [upd_ne (ne_of_none q' hf)]
    exact q'
  · obtain ⟨g1, g2, g3⟩ := e.k a o h1 h2 h3
    refine ⟨g1, ?_, g3⟩
    show upd c.F p u a = none
    rw [upd_ne (ne_of_none h1 h0)]
    exact g2
/-- .. or as a cell -/
theorem Rep.adC (r : Rep K cA c H s) {p : Addr} {u : HO} {x : Cell} (h : H p = some u) (hf : c.F p = none) (hi : p ∉ c.ι) (hx : RepC K cA ⟨c.F, c.ι ++ [p]⟩ p x u) : Rep K cA ⟨c.F, c.ι ++ [p]⟩ H (s ++ [some x]) := by
  have e : Ext c (fun _ => none) ⟨c.F, c.ι ++ [p]⟩ H := ⟨Same.refl _, List.prefix_append _ _, fun a o z => by cases z⟩
  refine ⟨r.sub, ?_, ?_, fun a m => ?_, fun n y a h1 h2 => ?_⟩
  · show (c.ι ++ [p]).length = _
    rw [List.length_append, List.length_append, r.len]
    rfl
  · show (c.ι ++ [p]).Nodup
    rw [List.nodup_append]
    refine ⟨r.nd, by simp, fun a m b n z => ?_⟩
    simp only [List.mem_singleton] at n
    subst n
    subst z
    exact hi m
  · have m' : a ∈ c.ι ++ [p] := m
    rcases List.mem_append.mp m' with m | m
    · exact r.dom a m
    · simp only [List.mem_singleton] at m
      rw [m, h]
      simp
  · have h2' : (c.ι ++ [p])[n]? = some a := h2
    by_cases q : n < s.length
    · rw [List.getElem?_append_left q] at h1
      rw [List.getElem?_append_left (by rw [r.len]; exact q)] at h2'
      obtain ⟨g1, u', g2, g3⟩ := r.cell n y a h1 h2'
      exact ⟨g1, u', g2, g3.mono e⟩
    · rw [List.getElem?_append_right (by omega)] at h1
      rw [List.getElem?_append_right (by rw [r.len]; omega)] at h2'
      have n0 : n - s.length = 0 := by
        by_cases z : n - s.length = 0
        · exact z
        · rw [List.getElem?_eq_none (by simp; omega)] at h1
          cases h1
      rw [n0] at h1
      rw [r.len, n0] at h2'
      cases h1
      cases h2'
      exact ⟨hf, u, h, hx⟩
theorem Ext.adC {c0 : Cf} {H0 : Hp} (e : Ext c0 H0 c H) {p : Addr} (h0 : H0 p = none) : Ext c0 H0 ⟨c.F, c.ι ++ [p]⟩ H := by
  refine ⟨e.f, e.i.trans (List.prefix_append _ _), fun a o h1 h2 h3 => ?_⟩
  obtain ⟨g1, g2, g3⟩ := e.k a o h1 h2 h3
  refine ⟨g1, g2, fun m => ?_⟩
  rcases List.mem_append.mp (show a ∈ c.ι ++ [p] from m) with m | m
  · exact g3 m
  · simp only [List.mem_singleton] at m
    rw [m, h0] at h1
    cases h1
/-- a cell is written -/
theorem Rep.wr (r : Rep K cA c H s) {n : Nat} {a : Addr} {x0 x : Cell} {u : HO} (hn : s[n]? = some (some x0)) (ha : c.ι[n]? = some a) (hx : RepC K cA c a x u) : Rep K cA c (upd H a u) (s.set n (some x)) := by
  obtain ⟨f0, _⟩ := r.cell n x0 a hn ha
  have hlt : n < s.length := (List.getElem?_eq_some_iff.mp hn).1
  refine ⟨fun b o q => ?_, by rw [List.length_set]; exact r.len, r.nd, fun b m => ?_, fun k y b h1 h2 => ?_⟩
  · rw [upd_ne (ne_of_none q f0)]
    exact r.sub b o q
  · by_cases z : b = a
    · rw [z, upd_same]; simp
    · rw [upd_ne z]; exact r.dom b m
  · by_cases z : k = n
    · subst z
      rw [List.getElem?_set_self hlt] at h1
      cases h1
      rw [ha] at h2
      cases h2
      exact ⟨f0, u, upd_same, hx⟩
    · rw [List.getElem?_set_ne (Ne.symm z)] at h1
      obtain ⟨g1, u', g2, g3⟩ := r.cell k y b h1 h2
      have ne : b ≠ a := fun q => z (by
        subst q
        obtain ⟨l1, e1⟩ := List.getElem?_eq_some_iff.mp h2
        obtain ⟨l2, e2⟩ := List.getElem?_eq_some_iff.mp ha
        exact (List.getElem_inj r.nd).mp (e1.trans e2.symm))
      refine ⟨g1, u', ?_, g3⟩
      rw [upd_ne ne]
      exact g2
theorem Ext.wr (r : Rep K cA c H s) {n : Nat} {a : Addr} {u : HO} (ha : c.ι[n]? = some a) : Ext c H c (upd H a u) :=
  ⟨Same.refl _, List.prefix_refl _, fun b o h1 h2 h3 => ⟨by
    have ne : b ≠ a := fun z => h3 (by rw [z]; exact List.mem_of_getElem? ha)
    rw [upd_ne ne]
    exact h1, h2, h3⟩⟩
/-- a cell is forgotten -/
theorem Rep.drop (r : Rep K cA c H s) {n : Nat} : Rep K cA c H (s.set n none) := by
  refine ⟨r.sub, by rw [List.length_set]; exact r.len, r.nd, r.dom, fun k y b h1 h2 => ?_⟩
  by_cases z : k = n
  · subst z
    by_cases q : k < s.length
    · rw [List.getElem?_set_self q] at h1
      cases h1
    · rw [List.getElem?_eq_none (by rw [List.length_set]; omega)] at h1
      cases h1
  · rw [List.getElem?_set_ne (Ne.symm z)] at h1
    exact r.cell k y b h1 h2
/-- a forgotten cell goes into the frozen part -/
theorem Rep.fzc (r : Rep K cA c H s) {n : Nat} {a : Addr} {u : HO} (ha : c.ι[n]? = some a) (h : H a = some u) (hf : c.F a = none) (hs : ∀ y : Cell, s[n]? ≠ some (some y)) : Rep K cA ⟨upd c.F a u, c.ι⟩ H s ∧ Ext c H ⟨upd c.F a u, c.ι⟩ H := by
  have e : Ext c H ⟨upd c.F a u, c.ι⟩ H := ⟨fun b o q => by
    show upd c.F a u b = some o
    rw [upd_ne (ne_of_none q hf)]
    exact q, List.prefix_refl _, fun b o h1 h2 h3 => ⟨h1, by
      show upd c.F a u b = none
      have ne : b ≠ a := fun z => h3 (by rw [z]; exact List.mem_of_getElem? ha)
      rw [upd_ne ne]
      exact h2, h3⟩⟩
  refine ⟨⟨fun b o q => ?_, r.len, r.nd, r.dom, fun k y b h1 h2 => ?_⟩, e⟩
  · have q' : upd c.F a u b = some o := q
    by_cases z : b = a
    · subst z
      rw [upd_same] at q'
      cases q'
      exact h
    · rw [upd_ne z] at q'
      exact r.sub b o q'
  · obtain ⟨g1, u', g2, g3⟩ := r.cell k y b h1 h2
    have ne : b ≠ a := fun q => by
      subst q
      obtain ⟨l1, e1⟩ := List.getElem?_eq_some_iff.mp h2
      obtain ⟨l2, e2⟩ := List.getElem?_eq_some_iff.mp ha
      have kn : k = n := (List.getElem_inj r.nd).mp (e1.trans e2.symm)
      subst kn
      exact hs y h1
    refine ⟨?_, u', g2, g3.mono e⟩
    show upd c.F a u b = none
    rw [upd_ne ne]
    exact g1
/-- what a cell's name stands for -/
theorem Rep.at (r : Rep K cA c H s) {n : Nat} {x : Cell} {v : V} (hc : cel s n = some x) (hv : RepV K c (.o n) v) : ∃ a u, v = .ref a ∧ c.ι[n]? = some a ∧ s[n]? = some (some x) ∧ H a = some u ∧ c.F a = none ∧ RepC K cA c a x u := by
  obtain ⟨a, ha, rfl⟩ := hv
  obtain ⟨f, u, h, q⟩ := r.cell n x a (cel_some hc) ha
  exact ⟨a, u, rfl, ha, cel_some hc, h, f, q⟩
theorem Rep.asL (r : Rep K cA c H s) {d : D} {v : V} {xs : List D} (hd : asL s d = some xs) (hv : RepV K c d v) : ∃ a vs, v = .ref a ∧ H a = some (.lst vs) ∧ RepVs K c xs vs := by
  cases d with
  | p d =>
    cases d with
    | list ds =>
      cases hd
      cases hv with
      | lst h t => exact ⟨_, _, rfl, r.sub _ _ h, repVs_of t⟩
    | _ => cases hd
  | s l => cases hd
  | o n =>
    unfold G.asL at hd
    dsimp only at hd
    split at hd
    · rename_i ys e
      cases hd
      obtain ⟨a, u, e1, e2, e3, e4, e5, vs, e6, e7⟩ := r.at e hv
      subst e6
      exact ⟨a, vs, e1, e4, e7⟩
    · cases hd
theorem Rep.asT (r : Rep K cA c H s) {d : D} {v : V} {xs : List D} (hd : asT s d = some xs) (hv : RepV K c d v) : ∃ a vs, v = .ref a ∧ SqT K H a vs ∧ RepVs K c xs vs := by
  cases d with
  | p d =>
    cases d with
    | tuple ds =>
      cases hd
      cases hv with
      | tup h t => exact ⟨_, _, rfl, seqT_mono r.sub h, repVs_of t⟩
    | _ => cases hd
  | s l => cases hd
  | o n =>
    unfold G.asT at hd
    dsimp only at hd
    split at hd
    · rename_i ys e
      cases hd
      obtain ⟨a, u, e1, e2, e3, e4, e5, vs, e6, e7⟩ := r.at e hv
      subst e6
      exact ⟨a, vs, e1, SqT.of e4, e7⟩
    · cases hd
/-- all the way down -/
theorem Rep.res (r : Rep K cA c H s) : ∀ (k : Nat) {d : D} {v : V} {q : PyData}, res k s d = some q → RepV K c d v → Dp K H v q
  | k, .p d, v, q, h, hv => by
    rw [res_p] at h
    cases h
    exact dq_dp (dq_mono r.sub hv)
  | k, .s l, v, q, h, hv => by cases k <;> cases h
  | 0, .o n, v, q, h, hv => by cases h
  | k + 1, .o n, v, q, h, hv => by
    have all : ∀ {xs : List D} {ds : List PyData} {vs : List V}, Paired (fun a b => G.res k s a = some b) xs ds → RepVs K c xs vs → DpAll K H vs ds := by
      intro xs ds vs h1
      induction h1 generalizing vs with
      | nil => intro h2; cases h2; exact .nil
      | cons g t ih =>
        intro h2
        cases h2 with
        | cons h3 h4 => exact .cons (Rep.res r k g h3) (ih h4)
    unfold G.res at h
    split at h
    · rename_i xs e
      obtain ⟨a, u, rfl, e2, e3, e4, e5, vs, rfl, e7⟩ := r.at e hv
      cases z : mapO (G.res k s) xs with
      | none => rw [z] at h; cases h
      | some ds =>
        rw [z] at h
        cases h
        exact .lst (SqL.of e4) (all (mapO_some z) e7)
    · rename_i xs e
      obtain ⟨a, u, rfl, e2, e3, e4, e5, vs, rfl, e7⟩ := r.at e hv
      cases z : mapO (G.res k s) xs with
      | none => rw [z] at h; cases h
      | some ds =>
        rw [z] at h
        cases h
        exact .tup (SqT.of e4) (all (mapO_some z) e7)
    · cases h
end
end G

namespace G
open PySem PySem.Spec PyProof.Rows L2
open Classical
noncomputable section

inductive Bop | add | sub | mul | fdiv | mod | pow
inductive Cop | eq | ne | lt | le | gt | ge | is_ | isn | in_ | nin
inductive Ty | int | bool | str | tuple | list | dict | own (k : Nat)
inductive Bi | len | list | tuple | abs | min | max | int | repr | all | any | sum | sorted | dict | str
inductive Tg | nm (i : Nat) | tp (is : List Nat)
mutual
inductive E
  | nv
  | v (i : Nat)
  | k (d : PyData)
  | g (i : Nat)
  | tup (es : Es)
  | lst (fl : Bool) (es : Es)
  | dnew
  | bin (op : Bop) (fl : Bool) (a b : E)
  | neg (a : E)
  | nt (a : E)
  | cmp (op : Cop) (a b : E)
  | chn (o1 o2 : Cop) (a b c : E)
  | an (a b : E)
  | orr (a b : E)
  | ife (c a b : E)
  | ix (a i : E)
  | sl (fl : Bool) (a : E) (lo hi : Eo)
  | rev (fl : Bool) (a : E)
  | call (f : Nat) (es : Es)
  | bi (b : Bi) (fl : Bool) (a : E)
  | bi2 (b : Bi) (a c : E)
  | isi (a : E) (t : Ty)
  | isx (a : E) (k : Option Nat)
  | app (a x : E)
  | ins (a i x : E)
  | lc (fl : Bool) (el : E) (ow : List Nat) (tg : Tg) (it : It) (c : Eo)
  | lc2 (fl : Bool) (el : E) (ow : List Nat) (tg : Tg) (it : It) (tg2 : Tg) (it2 : It) (ow2 : List Nat) (c : Eo)
  | frz (a : E)
  | fld (a : E) (f : Str)
  | mk (k f : Nat) (es : Es)
  | mc (k : Nat) (m : Str) (f : Nat) (a : E) (es : Es)
inductive Es
  | nil
  | cons (e : E) (es : Es)
inductive Eo
  | no
  | so (e : E)
inductive It
  | seq (e : E)
  | rng (a : E)
  | rng2 (a b : E)
  | enu (a : E)
end
mutual
inductive S
  | nv
  | asg (tg : Tg) (e : E)
  | seti (a i e : E)
  | setf (a : E) (f : Str) (e : E)
  | aug (i : Nat) (op : Bop) (e : E)
  | ex (e : E)
  | ret (e : E)
  | retN
  | ifs (c : E) (a b : Ss)
  | for_ (tg : Tg) (it : It) (b : Ss)
  | whl (c : E) (b : Ss)
  | pass
  | brk
  | cnt
  | raiseM (k : Nat)
  | raiseV (k f : Nat) (e : E)
  | tryC (b : Ss) (k : Nat) (x i : Nat)
inductive Ss
  | nil
  | cons (s : S) (ss : Ss)
end

/-! ### the operations -/
def dInt : D → Option Int
  | .p (.int i) => some i
  | _ => none
def dBool : D → Option Bool
  | .p (.bool b) => some b
  | _ => none
def dStr : D → Option Str
  | .p (.str x) => some x
  | _ => none
def binop (op : Bop) (fl : Bool) (x y : D) (s : Sto) : R D := match op, dInt x, dInt y with
  | .add, some i, some j => .ok (.p (.int (i + j))) s
  | .sub, some i, some j => .ok (.p (.int (i - j))) s
  | .mul, some i, some j => if CMul i j ∨ CMulW i j then .ok (.p (.int (i * j))) s else .bad
  | .fdiv, some i, some j => if 0 < j ∧ (j < 1073741824 ∨ j.natAbs.log2 < 9000) then .ok (.p (.int (i / j))) s else .bad
  | .mod, some i, some j => if 0 < j then .ok (.p (.int (i % j))) s else .bad
  | .pow, some i, some j => if 0 ≤ j ∧ (Builtin.Int.intBits i : Int) * j ≤ 2 ^ 27 then .ok (.p (.int (i ^ j.toNat))) s else .bad
  | .add, _, _ => (match asL s x, asL s y with
    | some xs, some ys => mkL fl (xs ++ ys) s
    | _, _ => .bad)
  | .mul, _, some k => (match asL s x with
    | some xs => if 0 ≤ k ∧ k ≤ 1000 ∧ xs.length ≤ 1000 then mkL fl (List.replicate k.toNat xs).flatten s else .bad
    | _ => .bad)
  | _, _, _ => .bad
def cmpI (op : Cop) (i j : Int) : Option Bool := match op with
  | .lt => some (decide (i < j))
  | .le => some (decide (i ≤ j))
  | .gt => some (decide (j < i))
  | .ge => some (decide (j ≤ i))
  | _ => none
def sEs : D → D → Option Bool
  | .p (.str a), .p (.str b) => some (decide (a = b))
  | _, _ => none
def sEr (x y : D) (s : Sto) : Option Bool := match res 8 s x, res 8 s y with
  | some a, some b => if SeqAt.shaped a = true ∧ SeqAt.shaped b = true then some (PyData.eqv a b) else none
  | _, _ => none
def sEq (x y : D) (s : Sto) : Option Bool := match sEs x y with
  | some b => some b
  | none => sEr x y s
def sIn (x y : D) (s : Sto) : Option Bool := match res 8 s x, y with
  | some (.str a), .p (.str z) => if a.cps.size = 1 then some (decide (a.cps.getD 0 0 ∈ z.cps.toList)) else none
  | some a, _ => (match res 8 s y with
    | some (.list ds) => if SeqAt.shaped a = true ∧ SeqAt.shaped (.list ds) = true then some (ds.any fun z => PyData.eqv z a) else none
    | some (.tuple ds) => if SeqAt.shaped a = true ∧ SeqAt.shaped (.tuple ds) = true then some (ds.any fun z => PyData.eqv z a) else none
    | _ => none)
  | _, _ => none
def bR (b : Option Bool) (s : Sto) : R D := match b with
  | some b => .ok (.p (.bool b)) s
  | none => .bad
def isNone : D → Bool
  | .p .none => true
  | _ => false
def cmpop (op : Cop) (x y : D) (s : Sto) : R D := match op with
  | .eq => bR (sEq x y s) s
  | .ne => bR ((sEq x y s).map not) s
  | .is_ => if isNone y = true then .ok (.p (.bool (isNone x))) s else .bad
  | .isn => if isNone y = true then .ok (.p (.bool (!isNone x))) s else .bad
  | .in_ => bR (sIn x y s) s
  | .nin => bR ((sIn x y s).map not) s
  | op => (match dInt x, dInt y with
    | some i, some j => bR (cmpI op i j) s
    | _, _ => (match op, dStr x, dStr y with
      | .lt, some i, some j => .ok (.p (.bool (decide (i.cps.toList < j.cps.toList)))) s
      | _, _, _ => .bad))
def asSq (s : Sto) (x : D) : Option (List D) := match asL s x with
  | some xs => some xs
  | none => asT s x
def ixop (x y : D) (s : Sto) : R D := match dInt y, asSq s x with
  | some i, some xs => (match atI xs i with
    | some v => .ok v s
    | none => .bad)
  | _, _ => .bad
def cutD (xs : List D) (lo hi : Option Int) : List D := (xs.drop (HT.sIx xs.length 0 lo)).take (HT.sIx xs.length xs.length hi - HT.sIx xs.length 0 lo)
def slop (fl : Bool) (x : D) (lo hi : Option Int) (s : Sto) : R D := match x with
  | .s l => mkL fl (cutD (l.map .p) lo hi) s
  | x => (match asL s x with
    | some xs => mkL fl (cutD xs lo hi) s
    | none => .bad)
def revop (fl : Bool) (x : D) (s : Sto) : R D := match asL s x with
  | some xs => mkL fl xs.reverse s
  | none => .bad
def tyOf (s : Sto) : D → Option Ty
  | .p .none => none
  | .p (.bool _) => some .bool
  | .p (.int _) => some .int
  | .p (.str _) => some .str
  | .p (.list _) => some .list
  | .p (.tuple _) => some .tuple
  | .p (.dict _) => none
  | .s _ => none
  | .o n => match cel s n with
    | some (.lst _) => some .list
    | some (.tup _) => some .tuple
    | some (.dct _) => some .dict
    | some (.exn k _) => some (.own k)
    | _ => none
def tyName : Ty → String
  | .int => "int"
  | .bool => "bool"
  | .str => "str"
  | .tuple => "tuple"
  | .list => "list"
  | .dict => "dict"
  | .own _ => ""
/-- isinstance(x, t), t a built-in class -/
def isiB (s : Sto) (x : D) (t : Ty) : Option Bool := match x with
  | .p .none => some false
  | _ => match tyOf s x with
    | some .bool => some (tyName t == "bool" || tyName t == "int")
    | some (.own _) => none
    | some u => some (tyName u == tyName t)
    | none => none
def isiop (s : Sto) (x : D) (t : Ty) : R D := match t with
  | .own _ => .bad
  | t => bR (isiB s x t) s
def intsO (xs : List D) : Option (List Int) := mapO dInt xs
def boolsO (xs : List D) : Option (List Bool) := mapO dBool xs
def leastI : Int → List Int → Int
  | a, [] => a
  | a, b :: l => leastI (if b < a then b else a) l
def mostI : Int → List Int → Int
  | a, [] => a
  | a, b :: l => mostI (if a < b then b else a) l
/-- what repr tells of: a display of plain things that is not too long -/
def RpOk (d : PyData) : Prop := d.showable = true ∧ d.hasDict = false ∧ d.depth ≤ 60 ∧ d.shown.length ≤ sizeLine
def biop (b : Bi) (fl : Bool) (x : D) (s : Sto) : R D := match b with
  | .len => (match asSq s x with
    | some xs => .ok (.p (.int (xs.length : Int))) s
    | none => (match dStr x with
      | some z => if z.length ≤ LIM then .ok (.p (.int (z.length : Int))) s else .bad
      | none => .bad))
  | .list => (match asSq s x with
    | some xs => mkL fl xs s
    | none => .bad)
  | .tuple => (match asL s x with
    | some xs => mkT xs s
    | none => (match asT s x with
      | some _ => .ok x s
      | none => .bad))
  | .abs => (match dInt x with
    | some i => .ok (.p (.int (if i < 0 then -i else i))) s
    | none => .bad)
  | .min => (match (asSq s x).bind intsO with
    | some (i :: l) => .ok (.p (.int (leastI i l))) s
    | _ => .bad)
  | .max => (match (asSq s x).bind intsO with
    | some (i :: l) => .ok (.p (.int (mostI i l))) s
    | _ => .bad)
  | .sum => (match (asL s x).bind intsO with
    | some l => .ok (.p (.int l.sum)) s
    | _ => .bad)
  | .int => (match dInt x, dBool x with
    | some i, _ => .ok (.p (.int i)) s
    | _, some b => .ok (.p (.int (if b then 1 else 0))) s
    | _, _ => .bad)
  | .all => (match (asL s x).bind boolsO with
    | some l => .ok (.p (.bool (l.all id))) s
    | none => .bad)
  | .any => (match (asL s x).bind boolsO with
    | some l => .ok (.p (.bool (l.any id))) s
    | none => .bad)
  | .repr => (match res 8 s x with
    | some d => if RpOk d then .ok (.p (.str d.shown)) s else .bad
    | none => .bad)
  | _ => .bad
/-- xs.append(y), xs.insert(i, y) -/
def appop (x y : D) (s : Sto) : R D := match x with
  | .o n => (match cel s n with
    | some (.lst xs) => if xs.length < LIM then .ok (.p .none) (s.set n (some (.lst (xs ++ [y])))) else .bad
    | _ => .bad)
  | _ => .bad
def insop (x i y : D) (s : Sto) : R D := match x, dInt i with
  | .o n, some i => (match cel s n with
    | some (.lst xs) => if xs.length < LIM ∧ 0 ≤ i ∧ i ≤ (LIM : Int) then .ok (.p .none) (s.set n (some (.lst (xs.take i.toNat ++ [y] ++ xs.drop i.toNat)))) else .bad
    | _ => .bad)
  | _, _ => .bad
/-- x[i] = y -/
def setop (x i y : D) (s : Sto) : R Unit := match x, dInt i with
  | .o n, some i => (match cel s n with
    | some (.lst xs) => (match ixN xs.length i with
      | some j => .ok () (s.set n (some (.lst (xs.set j y))))
      | none => .bad)
    | _ => .bad)
  | _, _ => .bad
def putD (f : Str) (v : D) : List (Str × D) → List (Str × D)
  | [] => [(f, v)]
  | (g, w) :: r => if g = f then (f, v) :: r else (g, w) :: putD f v r
def fldop (sb : Nat → Nat → Option Bool) (x : D) (f : Str) (s : Sto) : R D := match x with
  | .o n => (match cel s n with
    | some (.exn c (some d)) => if f = ("wrong" : Str) ∧ (sb c c).isSome = true then .ok d s else .bad
    | _ => .bad)
  | _ => .bad
def setfop (x : D) (f : Str) (y : D) (s : Sto) : R Unit := match x with
  | .o n => (match cel s n with
    | some (.ins k fs) => if fs.length < 900 then .ok () (s.set n (some (.ins k (putD f y fs)))) else .bad
    | _ => .bad)
  | _ => .bad

/-! ### items, targets -/
inductive Item
  | one (d : D)
  | tp (ds : List D)
def setAll : List Nat → List D → Env → Option Env
  | [], [], e => some e
  | i :: is, d :: ds, e => if i < e.length then setAll is ds (e.set i (some d)) else none
  | _, _, _ => none
def bindT (t : Tg) (x : Item) (s : Sto) (e : Env) : Option Env := match t, x with
  | .nm i, .one d => if i < e.length then some (e.set i (some d)) else none
  | .tp is, .tp ds => if is.length = ds.length then setAll is ds e else none
  | .tp is, .one d => (match asSq s d with
    | some ds => if is.length = ds.length then setAll is ds e else none
    | none => none)
  | _, _ => none
def enumI : Nat → List D → List Item
  | _, [] => []
  | i, x :: xs => .tp [.p (.int (i : Int)), x] :: enumI (i + 1) xs
def wipeE (e : Env) : List Nat → Env
  | [] => e
  | v :: vs => (wipeE e vs).set v none

/-! ### expressions -/
/-- isinstance(x, t), t an own exception class or ValueError -/
def isiX (sb : Nat → Nat → Option Bool) (s : Sto) (x : D) (t : Option Nat) : Option Bool := match x, t with
  | .p .none, some k => (sb k k).map fun _ => false
  | .p .none, none => some false
  | .o n, some k => (match cel s n with
    | some (.exn c _) => sb c k
    | _ => none)
  | .o n, none => (match cel s n with
    | some (.exn c _) => (sb c c).map fun _ => true
    | _ => none)
  | _, _ => none
structure Pg where
  sb : Nat → Nat → Option Bool
  Φ : Nat → List D → Sto → R D
  gl : Nat → PyData
  W : Nat
def lcL (f : Item → Sto → R (Option D)) : List Item → Sto → R (List D)
  | [], s => .ok [] s
  | x :: xs, s => (f x s).bind fun r s1 => (lcL f xs s1).bind fun ys s2 => .ok (match r with
    | some y => y :: ys
    | none => ys) s2
def lcF (f : Item → Sto → R (List D)) : List Item → Sto → R (List D)
  | [], s => .ok [] s
  | x :: xs, s => (f x s).bind fun r s1 => (lcF f xs s1).bind fun ys s2 => .ok (r ++ ys) s2
def bOr {α : Type} (o : Option α) (k : α → R D) : R D := match o with
  | some a => k a
  | none => .bad
def rOr {α β : Type} (o : Option α) (k : α → R β) : R β := match o with
  | some a => k a
  | none => .bad
def noX {α : Type} (r : R α) : R α := match r with
  | .ok a s => .ok a s
  | _ => .bad
@[simp] theorem noX_ok {α : Type} (a : α) (s : Sto) : noX (.ok a s) = .ok a s := rfl
variable (P : Pg)
mutual
def ev : E → Env → Sto → R D
  | .nv, _, _ => .bad
  | .v i, e, s => (match e[i]? with
    | some (some d) => .ok d s
    | _ => .bad)
  | .k d, _, s => .ok (.p d) s
  | .g i, _, s => .ok (.p (P.gl i)) s
  | .tup es, e, s => (evs es e s).bind fun xs s1 => mkT xs s1
  | .lst fl es, e, s => (evs es e s).bind fun xs s1 => mkL fl xs s1
  | .dnew, _, s => .ok (.o s.length) (s ++ [some (.dct [])])
  | .bin op fl a b, e, s => (ev a e s).bind fun x s1 => (ev b e s1).bind fun y s2 => binop op fl x y s2
  | .neg a, e, s => (ev a e s).bind fun x s1 => rOr (dInt x) fun i => .ok (.p (.int (-i))) s1
  | .nt a, e, s => (ev a e s).bind fun x s1 => rOr (dBool x) fun b => .ok (.p (.bool (!b))) s1
  | .cmp op a b, e, s => (ev a e s).bind fun x s1 => (ev b e s1).bind fun y s2 => cmpop op x y s2
  | .chn o1 o2 a b c, e, s => (ev a e s).bind fun x s1 => (ev b e s1).bind fun y s2 => (cmpop o1 x y s2).bind fun z s3 => rOr (dBool z) fun q =>
      if q = true then (ev c e s3).bind fun w s4 => cmpop o2 y w s4 else .ok (.p (.bool false)) s3
  | .an a b, e, s => (ev a e s).bind fun x s1 => rOr (dBool x) fun q => if q = true then ev b e s1 else .ok (.p (.bool false)) s1
  | .orr a b, e, s => (ev a e s).bind fun x s1 => rOr (dBool x) fun q => if q = true then .ok (.p (.bool true)) s1 else ev b e s1
  | .ife c a b, e, s => (ev c e s).bind fun x s1 => rOr (dBool x) fun q => if q = true then ev a e s1 else ev b e s1
  | .ix a i, e, s => (ev a e s).bind fun x s1 => (ev i e s1).bind fun y s2 => ixop x y s2
  | .sl fl a lo hi, e, s => (ev a e s).bind fun x s1 => (evo lo e s1).bind fun l s2 => (evo hi e s2).bind fun h s3 => slop fl x l h s3
  | .rev fl a, e, s => (ev a e s).bind fun x s1 => revop fl x s1
  | .call f es, e, s => (evs es e s).bind fun xs s1 => P.Φ f xs s1
  | .bi b fl a, e, s => (ev a e s).bind fun x s1 => biop b fl x s1
  | .bi2 _ _ _, _, _ => .bad
  | .isi a t, e, s => (ev a e s).bind fun x s1 => isiop s1 x t
  | .isx a t, e, s => (ev a e s).bind fun x s1 => bR (isiX P.sb s1 x t) s1
  | .app a x, e, s => (ev a e s).bind fun l s1 => rOr (asL s1 l) fun _ => (ev x e s1).bind fun y s2 => appop l y s2
  | .ins a i x, e, s => (ev a e s).bind fun l s1 => rOr (asL s1 l) fun _ => (ev i e s1).bind fun j s2 => (ev x e s2).bind fun y s3 => insop l j y s3
  | .lc fl el ow tg it c, e, s => (evi it e s).bind fun xs s1 => if ¬ xs.length ≤ LIM then .bad else (lcL (fun x s2 => noX (rOr (bindT tg x s2 (wipeE e ow)) fun e2 => (evc c e2 s2).bind fun q s3 => if q = true then (ev el e2 s3).bind fun y s4 => .ok (some y) s4 else .ok none s3)) xs s1).bind fun ys s2 => mkL fl ys s2
  | .lc2 fl el ow tg it tg2 it2 ow2 c, e, s => (evi it e s).bind fun xs s1 => if ¬ xs.length ≤ 1000 then .bad else (lcF (fun x s2 => noX (rOr (bindT tg x s2 (wipeE e ow)) fun e2 => (evi it2 e2 s2).bind fun ys s3 => if ¬ ys.length ≤ 1000 then .bad else
      lcL (fun y s4 => noX (rOr (bindT tg2 y s4 (wipeE e2 ow2)) fun e3 => (evc c e3 s4).bind fun q s5 => if q = true then (ev el e3 s5).bind fun y s6 => .ok (some y) s6 else .ok none s5)) ys s3)) xs s1).bind fun ys s2 => mkL fl ys s2
  | .frz a, e, s => (ev a e s).bind fun x s1 => rOr (G.frz 8 x s1) fun q => .ok (.p q.1) q.2
  | .fld a f, e, s => (ev a e s).bind fun x s1 => fldop P.sb x f s1
  | .mk k f es, e, s => (evs es e s).bind fun xs s1 => (P.Φ f (.o s1.length :: xs) (s1 ++ [some (.ins k [])])).bind fun v s2 => if isNone v = true then .ok (.o s1.length) s2 else .bad
  | .mc k m f a es, e, s => (ev a e s).bind fun x s1 => (match x with
    | .o n => (match cel s1 n with
      | some (.ins k' fs) => if k' = k ∧ fs.lookup m = none then (evs es e s1).bind fun xs s2 => P.Φ f (.o n :: xs) s2 else .bad
      | _ => .bad)
    | _ => .bad)
def evs : Es → Env → Sto → R (List D)
  | .nil, _, s => .ok [] s
  | .cons a es, e, s => (ev a e s).bind fun x s1 => (evs es e s1).bind fun xs s2 => .ok (x :: xs) s2
def evo : Eo → Env → Sto → R (Option Int)
  | .no, _, s => .ok none s
  | .so a, e, s => (ev a e s).bind fun x s1 => rOr (dInt x) fun i => .ok (some i) s1
def evc : Eo → Env → Sto → R Bool
  | .no, _, s => .ok true s
  | .so a, e, s => (ev a e s).bind fun x s1 => rOr (dBool x) fun b => .ok b s1
def evi : It → Env → Sto → R (List Item)
  | .seq a, e, s => (ev a e s).bind fun x s1 => (match x with
    | .p (.list ds) => .ok (ds.map fun d => .one (.p d)) s1
    | .p (.tuple ds) => .ok (ds.map fun d => .one (.p d)) s1
    | .p (.str z) => .ok (z.cps.toList.map fun c => .one (.p (.str ⟨#[c]⟩))) s1
    | _ => .bad)
  | .rng a, e, s => (ev a e s).bind fun x s1 => rOr (dInt x) fun i => if i ≤ (LIM : Int) ∧ -(LIM : Int) ≤ i then .ok ((List.range i.toNat).map fun (k : Nat) => Item.one (.p (.int (k : Int)))) s1 else .bad
  | .rng2 a b, e, s => (ev a e s).bind fun x s1 => (ev b e s1).bind fun y s2 => rOr (dInt x) fun i => rOr (dInt y) fun j =>
      if -(LIM : Int) ≤ i ∧ i ≤ (LIM : Int) ∧ -(LIM : Int) ≤ j ∧ j ≤ (LIM : Int) then .ok ((List.range (j - i).toNat).map fun (k : Nat) => Item.one (.p (.int (i + (k : Int))))) s2 else .bad
  | .enu a, e, s => (ev a e s).bind fun x s1 => (match x with
    | .p (.list ds) => .ok (enumI 0 (ds.map .p)) s1
    | _ => .bad)
end

/-! ### statements -/
inductive RS
  | nx (e : Env) (s : Sto)
  | rt (d : D) (s : Sto)
  | bk (e : Env) (s : Sto)
  | ct (e : Env) (s : Sto)
  | exc (x : Xn) (e : Env) (s : Sto)
  | bad
def toS {α : Type} (r : R α) (e : Env) (f : α → Sto → RS) : RS := match r with
  | .ok a s => f a s
  | .exc x s => .exc x e s
  | .bad => .bad
@[simp] theorem toS_ok {α : Type} (a : α) (s : Sto) (e : Env) (f : α → Sto → RS) : toS (.ok a s) e f = f a s := rfl
def RS.nxt (r : RS) (f : Env → Sto → RS) : RS := match r with
  | .nx e s => f e s
  | r => r
@[simp] theorem RS.nxt_nx (e : Env) (s : Sto) (f : Env → Sto → RS) : (RS.nx e s).nxt f = f e s := rfl
@[simp] theorem RS.nxt_rt (d : D) (s : Sto) (f : Env → Sto → RS) : (RS.rt d s).nxt f = .rt d s := rfl
def forL (f : Item → Env → Sto → RS) : List Item → Env → Sto → RS
  | [], e, s => .nx e s
  | x :: xs, e, s => match f x e s with
    | .nx e1 s1 => forL f xs e1 s1
    | .ct e1 s1 => forL f xs e1 s1
    | .bk e1 s1 => .nx e1 s1
    | r => r
def whlL (c : Env → Sto → R Bool) (b : Env → Sto → RS) : Nat → Env → Sto → RS
  | 0, _, _ => .bad
  | n + 1, e, s => toS (c e s) e fun q s1 => if q = true then (match b e s1 with
    | .nx e1 s2 => whlL c b n e1 s2
    | .ct e1 s2 => whlL c b n e1 s2
    | .bk e1 s2 => .nx e1 s2
    | r => r) else .nx e s1
def bindS (t : Tg) (x : Item) (s : Sto) (e : Env) (f : Env → RS) : RS := match bindT t x s e with
  | some e1 => f e1
  | none => .bad
mutual
def exe : S → Env → Sto → RS
  | .nv, _, _ => .bad
  | .asg tg a, e, s => toS (ev P a e s) e fun x s1 => bindS tg (.one x) s1 e fun e1 => .nx e1 s1
  | .seti a i x, e, s => toS (ev P x e s) e fun y s1 => toS (ev P a e s1) e fun l s2 => toS (ev P i e s2) e fun j s3 => toS (setop l j y s3) e fun _ s4 => .nx e s4
  | .setf a f x, e, s => toS (ev P x e s) e fun y s1 => toS (ev P a e s1) e fun l s2 => toS (setfop l f y s2) e fun _ s3 => .nx e s3
  | .aug i op x, e, s => (match e[i]? with
    | some (some d) => toS (ev P x e s) e fun y s1 => (match op, dInt d, dInt y with
      | .add, some j, some k => .nx (e.set i (some (.p (.int (j + k))))) s1
      | .sub, some j, some k => .nx (e.set i (some (.p (.int (j - k))))) s1
      | _, _, _ => .bad)
    | _ => .bad)
  | .ex a, e, s => toS (ev P a e s) e fun _ s1 => .nx e s1
  | .ret a, e, s => toS (ev P a e s) e fun x s1 => .rt x s1
  | .retN, _, s => .rt (.p .none) s
  | .ifs c a b, e, s => toS (evc P (.so c) e s) e fun q s1 => if q = true then exs a e s1 else exs b e s1
  | .for_ tg it b, e, s => toS (evi P it e s) e fun xs s1 => forL (fun x e1 s2 => bindS tg x s2 e1 fun e2 => exs b e2 s2) xs e s1
  | .whl c b, e, s => whlL (fun e1 s1 => evc P (.so c) e1 s1) (fun e1 s1 => exs b e1 s1) P.W e s
  | .pass, e, s => .nx e s
  | .brk, e, s => .bk e s
  | .cnt, e, s => .ct e s
  | .raiseM k, e, s => .exc ⟨k, none⟩ e s
  | .raiseV k _ a, e, s => toS (ev P a e s) e fun y s1 => .exc ⟨k, some y⟩ e s1
  | .tryC b k x i, e, s => (match exs b e s with
    | .exc y e1 s1 => (match P.sb y.c k with
      | some true => if x < e1.length then .nx (((e1.set x (some (.o s1.length))).set i (some (.o s1.length))).set x none) (s1 ++ [some (.exn y.c y.pl)]) else .bad
      | some false => .exc y e1 s1
      | none => .bad)
    | r => r)
def exs : Ss → Env → Sto → RS
  | .nil, e, s => .nx e s
  | .cons a r, e, s => (exe a e s).nxt fun e1 s1 => exs r e1 s1
end
end
end G

namespace G
open PySem PySem.Spec PyProof.Rows L2
open Classical
noncomputable section
section
variable {K : PySem.W.Frag} {cA : Nat → Addr} {α β : Type}
/-! ### what is to hold behind a run -/
def Post (K : PySem.W.Frag) (cA : Nat → Addr) (c : Cf) (H : Hp) (r : R α) (A : α → Sto → Cf → Hp → Prop) (W : Xn → Sto → Cf → Hp → Prop) : Prop := match r with
  | .ok a s => ∀ c' H', Ext c H c' H' → Rep K cA c' H' s → A a s c' H'
  | .exc x s => ∀ c' H', Ext c H c' H' → Rep K cA c' H' s → W x s c' H'
  | .bad => False
variable {c c' : Cf} {H H' : Hp} {s : Sto} {A : β → Sto → Cf → Hp → Prop} {W : Xn → Sto → Cf → Hp → Prop}
theorem Post.mono {r : R β} (e : Ext c H c' H') (h : Post K cA c H r A W) : Post K cA c' H' r A W := by
  cases r with
  | ok a s => exact fun c2 H2 e2 q => h c2 H2 (e.trans e2) q
  | exc a s => exact fun c2 H2 e2 q => h c2 H2 (e.trans e2) q
  | bad => exact h
theorem Post.bind {r : R α} {f : α → Sto → R β} (h : Post K cA c H (r.bind f) A W) : Post K cA c H r (fun a s' c' H' => Post K cA c' H' (f a s') A W) W := by
  cases r with
  | ok a s => exact fun c2 H2 e2 _ => Post.mono (r := f a s) e2 h
  | exc a s => exact h
  | bad => exact h
theorem Post.imp {r : R β} {A' : β → Sto → Cf → Hp → Prop} {W' : Xn → Sto → Cf → Hp → Prop} (h : Post K cA c H r A W) (ha : ∀ a s c' H', Ext c H c' H' → Rep K cA c' H' s → A a s c' H' → A' a s c' H') (hw : ∀ x s c' H', Ext c H c' H' → Rep K cA c' H' s → W x s c' H' → W' x s c' H') : Post K cA c H r A' W' := by
  cases r with
  | ok a s => exact fun c2 H2 e2 q => ha a s c2 H2 e2 q (h c2 H2 e2 q)
  | exc a s => exact fun c2 H2 e2 q => hw a s c2 H2 e2 q (h c2 H2 e2 q)
  | bad => exact h
theorem Post.ok {a : β} (h : Post K cA c H (.ok a s) A W) (r : Rep K cA c H s) : A a s c H := h c H (Ext.refl _ _) r
theorem Post.rOr {o : Option α} {k : α → R β} (h : Post K cA c H (G.rOr o k) A W) : ∃ a, o = some a ∧ Post K cA c H (k a) A W := by
  cases o with
  | none => exact h.elim
  | some a => exact ⟨a, rfl, h⟩
theorem Post.if_ {p : Prop} [Decidable p] {r : R β} (h : Post K cA c H (if p then r else .bad) A W) : p ∧ Post K cA c H r A W := by
  by_cases q : p
  · rw [if_pos q] at h
    exact ⟨q, h⟩
  · rw [if_neg q] at h
    exact h.elim
theorem Post.bR {b : Option Bool} {A : D → Sto → Cf → Hp → Prop} (h : Post K cA c H (G.bR b s) A W) : ∃ k, b = some k ∧ Post K cA c H (.ok (.p (.bool k)) s) A W := by
  cases b with
  | none => exact h.elim
  | some k => exact ⟨k, rfl, h⟩

/-! ### slots -/
def RelE (K : PySem.W.Frag) (c : Cf) (e : Env) (σ : L2.St) : Prop := e.length = σ.length ∧ ∀ (i : Nat) (d : D), e[i]? = some (some d) → ∃ v, σ[i]? = some (some v) ∧ RepV K c d v
theorem RelE.mono {e : Env} {σ : L2.St} (x : Ext c H c' H') (h : RelE K c e σ) : RelE K c' e σ := ⟨h.1, fun i d q => by
  obtain ⟨v, h1, h2⟩ := h.2 i d q
  exact ⟨v, h1, h2.mono x⟩⟩
theorem RelE.set {e : Env} {σ : L2.St} {i : Nat} {d : D} {v : V} (h : RelE K c e σ) (r : RepV K c d v) : RelE K c (e.set i (some d)) (σ.set i (some v)) := by
  refine ⟨by rw [List.length_set, List.length_set, h.1], fun j d' q => ?_⟩
  by_cases z : j = i
  · subst z
    by_cases l : j < e.length
    · rw [List.getElem?_set_self l] at q
      cases q
      exact ⟨v, List.getElem?_set_self (by rw [← h.1]; exact l), r⟩
    · rw [List.getElem?_eq_none (by rw [List.length_set]; omega)] at q
      cases q
  · rw [List.getElem?_set_ne (Ne.symm z)] at q
    obtain ⟨w, h1, h2⟩ := h.2 j d' q
    exact ⟨w, by rw [List.getElem?_set_ne (Ne.symm z)]; exact h1, h2⟩
theorem RelE.unset {e : Env} {σ : L2.St} {i : Nat} (h : RelE K c e σ) : RelE K c (e.set i none) (σ.set i none) := by
  refine ⟨by rw [List.length_set, List.length_set, h.1], fun j d' q => ?_⟩
  by_cases z : j = i
  · subst z
    by_cases l : j < e.length
    · rw [List.getElem?_set_self l] at q
      cases q
    · rw [List.getElem?_eq_none (by rw [List.length_set]; omega)] at q
      cases q
  · rw [List.getElem?_set_ne (Ne.symm z)] at q
    obtain ⟨w, h1, h2⟩ := h.2 j d' q
    exact ⟨w, by rw [List.getElem?_set_ne (Ne.symm z)]; exact h1, h2⟩
theorem RelE.wipe {e : Env} {σ : L2.St} (h : RelE K c e σ) : ∀ vs : List Nat, RelE K c (wipeE e vs) (L2.wipe σ vs)
  | [] => h
  | v :: vs => (RelE.wipe h vs).unset

/-! ### exceptions -/
def XnR (K : PySem.W.Frag) (cA : Nat → Addr) (c : Cf) (x : Xn) (cls : Value) (dd : Option Addr) : Prop := cls = .ref (cA x.c) ∧ (match x.pl with
  | none => dd = none
  | some d => ∃ b v, dd = some b ∧ c.F b = some (.xd [(("wrong" : Str), v)]) ∧ RepV K c d v)
def WW (K : PySem.W.Frag) (cA : Nat → Addr) (W : WX) (σ : L2.St) : Xn → Sto → Cf → Hp → Prop := fun x _ c' H' => ∀ cls dd, XnR K cA c' x cls dd → W cls dd σ H'
def okQ (K : PySem.W.Frag) (Q : VK) : D → Sto → Cf → Hp → Prop := fun d _ c' H' => ∀ v, RepV K c' d v → Q v H'

/-! ### making lists and tuples -/
theorem mkL_new {fl : Bool} {xs : List D} {vs : List V} {Q : VK} (r : Rep K cA c H s) (hv : RepVs K c xs vs) (h : Post K cA c H (mkL fl xs s) (okQ K Q) W) : vs.length ≤ LIM ∧ ∀ p, H p = none → Q (.ref p) (upd H p (.lst vs)) := by
  unfold mkL at h
  obtain ⟨hl, h⟩ := h.if_
  refine ⟨by rw [← Paired.length hv]; exact hl, fun p hp => ?_⟩
  obtain ⟨f1, f2⟩ := r.fresh hp
  have eg : Ext c H c (upd H p (.lst vs)) := Ext.grow hp
  have rg : Rep K cA c (upd H p (.lst vs)) s := r.grow hp
  have cellC : Post K cA c H (.ok (.o s.length) (s ++ [some (.lst xs)])) (okQ K Q) W → Q (.ref p) (upd H p (.lst vs)) := fun h => by
    refine h ⟨c.F, c.ι ++ [p]⟩ _ (eg.adC hp) (rg.adC upd_same f1 f2 ⟨vs, rfl, hv.mono (eg.adC hp)⟩) (.ref p) ⟨p, ?_, rfl⟩
    show (c.ι ++ [p])[s.length]? = some p
    rw [List.getElem?_append_right (by rw [r.len]; exact Nat.le_refl _), r.len, Nat.sub_self]
    rfl
  cases fl with
  | true => exact cellC h
  | false =>
    cases e : allP xs with
    | none =>
      rw [e] at h
      exact cellC h
    | some ds =>
      rw [e] at h
      have ex := allP_some e
      subst ex
      refine h ⟨upd c.F p (.lst vs), c.ι⟩ _ (eg.adF f1 hp) (rg.adF upd_same f1 f2) (.ref p) ?_
      exact .lst upd_same (dqAll_of (c := ⟨upd c.F p (.lst vs), c.ι⟩) (hv.mono (eg.adF f1 hp)))
theorem mkT_new {xs : List D} {vs : List V} {Q : VK} (r : Rep K cA c H s) (hv : RepVs K c xs vs) (h : Post K cA c H (mkT xs s) (okQ K Q) W) : vs.length ≤ LIM ∧ ∀ p, H p = none → Q (.ref p) (upd H p (.tup vs)) := by
  unfold mkT at h
  obtain ⟨hl, h⟩ := h.if_
  refine ⟨by rw [← Paired.length hv]; exact hl, fun p hp => ?_⟩
  obtain ⟨f1, f2⟩ := r.fresh hp
  have eg : Ext c H c (upd H p (.tup vs)) := Ext.grow hp
  have rg : Rep K cA c (upd H p (.tup vs)) s := r.grow hp
  cases e : allP xs with
  | none =>
    rw [e] at h
    refine h ⟨c.F, c.ι ++ [p]⟩ _ (eg.adC hp) (rg.adC upd_same f1 f2 ⟨vs, rfl, hv.mono (eg.adC hp)⟩) (.ref p) ⟨p, ?_, rfl⟩
    show (c.ι ++ [p])[s.length]? = some p
    rw [List.getElem?_append_right (by rw [r.len]; exact Nat.le_refl _), r.len, Nat.sub_self]
    rfl
  | some ds =>
    rw [e] at h
    have ex := allP_some e
    subst ex
    refine h ⟨upd c.F p (.tup vs), c.ι⟩ _ (eg.adF f1 hp) (rg.adF upd_same f1 f2) (.ref p) ?_
    exact .tup (SqT.of upd_same) (dqAll_of (c := ⟨upd c.F p (.tup vs), c.ι⟩) (hv.mono (eg.adF f1 hp)))

/-! ### taking cells out -/
def dead (s : Sto) (m : Nat) : Prop := ∀ y : Cell, s[m]? ≠ some (some y)
theorem dead_set {s : Sto} {m n : Nat} (h : dead s m) : dead (s.set n none) m := fun y q => by
  by_cases z : m = n
  · subst z
    by_cases l : m < s.length
    · rw [List.getElem?_set_self l] at q
      cases q
    · rw [List.getElem?_eq_none (by rw [List.length_set]; omega)] at q
      cases q
  · rw [List.getElem?_set_ne (Ne.symm z)] at q
    exact h y q
theorem dead_self {s : Sto} {n : Nat} : dead (s.set n none) n := fun y q => by
  by_cases l : n < s.length
  · rw [List.getElem?_set_self l] at q
    cases q
  · rw [List.getElem?_eq_none (by rw [List.length_set]; omega)] at q
    cases q
structure Fz (K : PySem.W.Frag) (cA : Nat → Addr) (c : Cf) (H : Hp) (s : Sto) (c' : Cf) (s' : Sto) : Prop where
  r : Rep K cA c' H s'
  e : Ext c H c' H
  i : c'.ι = c.ι
  d : ∀ m, dead s m → dead s' m
  f : ∀ (m : Nat) (a : Addr), c.ι[m]? = some a → dead s m → c'.F a = c.F a
theorem Fz.refl (r : Rep K cA c H s) : Fz K cA c H s c s := ⟨r, Ext.refl _ _, rfl, fun _ z => z, fun _ _ _ _ => rfl⟩
theorem Fz.trans {c1 c2 : Cf} {s1 s2 : Sto} (a : Fz K cA c H s c1 s1) (b : Fz K cA c1 H s1 c2 s2) : Fz K cA c H s c2 s2 :=
  ⟨b.r, a.e.trans b.e, b.i.trans a.i, fun m z => b.d m (a.d m z), fun m x h z => (b.f m x (by rw [a.i]; exact h) (a.d m z)).trans (a.f m x h z)⟩
theorem Fz.one {c1 : Cf} {s1 : Sto} {n : Nat} {a : Addr} {u : HO} (x : Fz K cA c H (s.set n none) c1 s1) (r : Rep K cA c H s) (hl : ¬ dead s n) (ha : c.ι[n]? = some a) (h : H a = some u) (hf : c.F a = none) :
    ∃ c2, Fz K cA c H s c2 s1 ∧ c2.F = upd c1.F a u ∧ Same c1.F c2.F := by
  have e1 : c1.F a = none := (x.f n a ha dead_self).trans hf
  obtain ⟨l1, l2⟩ := x.r.fzc (by rw [x.i]; exact ha) h e1 (x.d n dead_self)
  refine ⟨_, ⟨l1, x.e.trans l2, x.i, fun m z => x.d m (dead_set z), fun m b hb z => ?_⟩, rfl, l2.f⟩
  have ne : b ≠ a := fun q => by
    subst q
    obtain ⟨i1, e1⟩ := List.getElem?_eq_some_iff.mp hb
    obtain ⟨i2, e2⟩ := List.getElem?_eq_some_iff.mp ha
    have mn : m = n := (List.getElem_inj r.nd).mp (e1.trans e2.symm)
    exact hl (mn ▸ z)
  show upd c1.F a u b = c.F b
  rw [upd_ne ne]
  exact x.f m b hb (dead_set z)
theorem frz_ok : ∀ (k : Nat) {d : D} {s s' : Sto} {q : PyData} {c : Cf} {v : V}, frz k d s = some (q, s') → Rep K cA c H s → RepV K c d v → ∃ c', Fz K cA c H s c' s' ∧ Dq K c'.F v q
  | k, .p d, s, s', q, c, v, h, r, hv => by
    have e : frz k (.p d) s = some (d, s) := by cases k <;> rfl
    rw [e] at h
    cases h
    exact ⟨c, Fz.refl r, hv⟩
  | k, .s l, s, s', q, c, v, h, r, hv => by cases k <;> cases h
  | 0, .o n, s, s', q, c, v, h, r, hv => by cases h
  | k + 1, .o n, s, s', q, c, v, h, r, hv => by
    have all : ∀ (xs : List D) (ds : List PyData) (vs : List V) (s s' : Sto) (c : Cf), frzL (frz k) xs s = some (ds, s') → Rep K cA c H s → RepVs K c xs vs → ∃ c', Fz K cA c H s c' s' ∧ DqAll K c'.F vs ds := by
      intro xs
      induction xs with
      | nil =>
        intro ds vs s s' c h r hv
        cases h
        cases hv
        exact ⟨c, Fz.refl r, .nil⟩
      | cons x xs ih =>
        intro ds vs s s' c h r hv
        cases hv with
        | cons hx ht =>
          simp only [frzL] at h
          cases e1 : frz k x s with
          | none => rw [e1] at h; cases h
          | some r1 =>
            obtain ⟨d1, s1⟩ := r1
            rw [e1] at h
            dsimp only at h
            cases e2 : frzL (frz k) xs s1 with
            | none => rw [e2] at h; cases h
            | some r2 =>
              obtain ⟨ds2, s2⟩ := r2
              rw [e2] at h
              cases h
              obtain ⟨c1, g1, g3⟩ := frz_ok k e1 r hx
              obtain ⟨c2, l1, l3⟩ := ih ds2 _ s1 _ c1 e2 g1.r (RepVs.mono g1.e ht)
              exact ⟨c2, g1.trans l1, .cons (dq_mono l1.e.f g3) l3⟩
    unfold frz at h
    split at h
    · rename_i xs e
      obtain ⟨a, u, rfl, e2, e3, e4, e5, vs, rfl, e7⟩ := r.at e hv
      cases z : frzL (frz k) xs (s.set n none) with
      | none => rw [z] at h; cases h
      | some r1 =>
        obtain ⟨ds, s1⟩ := r1
        rw [z] at h
        cases h
        obtain ⟨c1, g1, g3⟩ := all xs ds vs _ _ c z r.drop e7
        obtain ⟨c2, l1, l2, l3⟩ := g1.one r (fun z => z _ e3) e2 e4 e5
        refine ⟨c2, l1, .lst ?_ (dqAll_mono l3 g3)⟩
        rw [l2]
        exact upd_same
    · rename_i xs e
      obtain ⟨a, u, rfl, e2, e3, e4, e5, vs, rfl, e7⟩ := r.at e hv
      cases z : frzL (frz k) xs (s.set n none) with
      | none => rw [z] at h; cases h
      | some r1 =>
        obtain ⟨ds, s1⟩ := r1
        rw [z] at h
        cases h
        obtain ⟨c1, g1, g3⟩ := all xs ds vs _ _ c z r.drop e7
        obtain ⟨c2, l1, l2, l3⟩ := g1.one r (fun z => z _ e3) e2 e4 e5
        refine ⟨c2, l1, .tup (SqT.of ?_) (dqAll_mono l3 g3)⟩
        rw [l2]
        exact upd_same
    · cases h
/-! ### forgetting what a call has laid -/
def cloD (m : Nat) : D → Prop
  | .o n => n < m
  | _ => True
def cloC (m : Nat) : Cell → Prop
  | .lst xs => ∀ x ∈ xs, cloD m x
  | .tup xs => ∀ x ∈ xs, cloD m x
  | .dct kvs => ∀ x ∈ kvs, cloD m x.2
  | .ins _ fs => ∀ x ∈ fs, cloD m x.2
  | .exn _ pl => ∀ d, pl = some d → cloD m d
def cut (s s' : Sto) : Option Sto := if ∀ n, n < s.length → s'[n]? = s[n]? ∨ ∀ x : Cell, s'[n]? = some (some x) → cloC s.length x then some (s'.take s.length) else none
theorem repV_clo {c : Cf} {v : V} : ∀ {d : D}, RepV K c d v → cloD c.ι.length d
  | .p _, _ => trivial
  | .s _, _ => trivial
  | .o _, ⟨_, h, _⟩ => (List.getElem?_eq_some_iff.mp h).1
theorem paired_mem {γ δ : Type} {F : γ → δ → Prop} : ∀ {xs : List γ} {ys : List δ}, Paired F xs ys → ∀ x ∈ xs, ∃ y, F x y
  | _, _, .nil, x, m => by cases m
  | _, _, .cons h t, x, m => by
    rcases List.mem_cons.mp m with e | m
    · subst e; exact ⟨_, h⟩
    · exact paired_mem t x m
theorem repC_clo {c : Cf} {a : Addr} {u : HO} {x : Cell} (h : RepC K cA c a x u) : cloC c.ι.length x := by
  cases x with
  | lst xs => obtain ⟨vs, _, r⟩ := h; exact fun x m => let ⟨_, q⟩ := paired_mem r x m; repV_clo q
  | tup xs => obtain ⟨vs, _, r⟩ := h; exact fun x m => let ⟨_, q⟩ := paired_mem r x m; repV_clo q
  | dct xs => obtain ⟨vs, _, r⟩ := h; exact fun x m => let ⟨_, q⟩ := paired_mem r x m; repV_clo q.2
  | ins k fs => obtain ⟨_, vs, _, r⟩ := h; exact fun x m => let ⟨_, q⟩ := paired_mem r x m; repV_clo q.2
  | exn k pl =>
    obtain ⟨dd, _, r⟩ := h
    intro d e
    subst e
    obtain ⟨b, v, _, _, q⟩ := r
    exact repV_clo q
theorem repV_cut {c : Cf} {ι : List Addr} {v : V} (hp : ι <+: c.ι) : ∀ {d : D}, RepV K c d v → cloD ι.length d → RepV K ⟨c.F, ι⟩ d v
  | .p _, h, _ => h
  | .s _, h, _ => h
  | .o n, ⟨a, h, q⟩, l => ⟨a, by
    obtain ⟨t, e⟩ := hp
    rw [← e, List.getElem?_append_left l] at h
    exact h, q⟩
theorem repVs_cut {c : Cf} {ι : List Addr} (hp : ι <+: c.ι) : ∀ {xs : List D} {vs : List V}, RepVs K c xs vs → (∀ x ∈ xs, cloD ι.length x) → RepVs K ⟨c.F, ι⟩ xs vs
  | _, _, .nil, _ => .nil
  | _, _, .cons h t, l => .cons (repV_cut hp h (l _ List.mem_cons_self)) (repVs_cut hp t fun x m => l x (List.mem_cons_of_mem _ m))
theorem repK_cut {κ : Type} {c : Cf} {ι : List Addr} (hp : ι <+: c.ι) : ∀ {xs : List (κ × D)} {vs : List (κ × V)}, RepK K c xs vs → (∀ x ∈ xs, cloD ι.length x.2) → RepK K ⟨c.F, ι⟩ xs vs
  | _, _, .nil, _ => .nil
  | _, _, .cons h t, l => .cons ⟨h.1, repV_cut hp h.2 (l _ List.mem_cons_self)⟩ (repK_cut hp t fun x m => l x (List.mem_cons_of_mem _ m))
theorem repC_cut {c : Cf} {ι : List Addr} {a : Addr} {u : HO} {x : Cell} (hp : ι <+: c.ι) (h : RepC K cA c a x u) (l : cloC ι.length x) : RepC K cA ⟨c.F, ι⟩ a x u := by
  cases x with
  | lst xs => obtain ⟨vs, q, r⟩ := h; exact ⟨vs, q, repVs_cut hp r l⟩
  | tup xs => obtain ⟨vs, q, r⟩ := h; exact ⟨vs, q, repVs_cut hp r l⟩
  | dct xs => obtain ⟨vs, q, r⟩ := h; exact ⟨vs, q, repK_cut hp r l⟩
  | ins k fs => obtain ⟨dx, vs, q, r⟩ := h; exact ⟨dx, vs, q, repK_cut hp r l⟩
  | exn k pl =>
    obtain ⟨dd, q, r⟩ := h
    refine ⟨dd, q, ?_⟩
    cases pl with
    | none => trivial
    | some d =>
      obtain ⟨b, v, r1, r2, r3⟩ := r
      exact ⟨b, v, r1, r2, repV_cut hp r3 (l d rfl)⟩
theorem Rep.cut {c c' : Cf} {H H' : Hp} {s s' s2 : Sto} (r0 : Rep K cA c H s) (e : Ext c H c' H') (r : Rep K cA c' H' s') (h : G.cut s s' = some s2) : Rep K cA ⟨c'.F, c.ι⟩ H' s2 ∧ Ext c H ⟨c'.F, c.ι⟩ H' := by
  unfold G.cut at h
  split at h
  · rename_i hc
    cases h
    have l1 : s.length ≤ s'.length := by
      obtain ⟨t, q⟩ := e.i
      rw [← r0.len, ← r.len, ← q, List.length_append]
      omega
    refine ⟨⟨r.sub, ?_, r0.nd, fun a m => ?_, fun n x a h1 h2 => ?_⟩, ⟨e.f, List.prefix_refl _, fun a o h1 h2 h3 => ?_⟩⟩
    · show c.ι.length = _
      rw [List.length_take, r0.len]
      omega
    · obtain ⟨t, q⟩ := e.i
      exact r.dom a (by rw [← q]; exact List.mem_append_left _ m)
    · have hn : n < s.length := by
        have := (List.getElem?_eq_some_iff.mp h2).1
        rw [← r0.len]
        exact this
      rw [List.getElem?_take_of_lt hn] at h1
      obtain ⟨f, u, g1, g2⟩ := r.cell n x a h1 (e.ix h2)
      refine ⟨f, u, g1, repC_cut e.i g2 ?_⟩
      rcases hc n hn with q | q
      · rw [q] at h1
        obtain ⟨_, u0, _, g3⟩ := r0.cell n x a h1 h2
        exact repC_clo g3
      · rw [r0.len]
        exact q x h1
    · obtain ⟨g1, g2, g3⟩ := e.k a o h1 h2 h3
      exact ⟨g1, g2, h3⟩
  · cases h
end
end
end G

namespace G
open PySem PySem.Spec PyProof.Rows L2
/-! ### further rules by values -/
section
variable {X : Cx}
theorem OpR.imp {f : Value → Value → Sem Value} {r r' : R2} (h : OpR X f r) (k : ∀ x y H Q, r' x y H Q → r x y H Q) : OpR X f r' := fun pins s σ H x y v u Q I rx ry q => h pins s σ H x y v u Q I rx ry (k _ _ _ _ q)
theorem CallR.imp {f : Value} {r r' : List V → Hp → VK → Prop} (h : CallR X f r) (k : ∀ x H Q, r' x H Q → r x H Q) : CallR X f r' := fun pins s σ H x v Q I rx q => h pins s σ H x v Q I rx (k _ _ _ q)
theorem MtR.imp {f : String} {r r' : V → List V → Hp → VK → Prop} (h : MtR X f r) (k : ∀ x y H Q, r' x y H Q → r x y H Q) : MtR X f r' := fun pins s σ H x xs v us Q I rx rxs q => h pins s σ H x xs v us Q I rx rxs (k _ _ _ _ q)
theorem IxR.imp {r r' : R2} (h : IxR X r) (k : ∀ x y H Q, r' x y H Q → r x y H Q) : IxR X r' := fun value slice pins s σ H x y v u Q I rx ry q => h value slice pins s σ H x y v u Q I rx ry (k _ _ _ _ q)
theorem PE.imp {e : Expr} {t t' : TE} (h : PE X e t) (k : ∀ σ H Q, t' σ H Q → t σ H Q) : PE X e t' := ⟨fun pins s σ H Q I q => h.run pins s σ H Q I (k _ _ _ q)⟩
theorem PT.imp {e : Expr} {t t' : TT} (h : PT X e t) (k : ∀ σ H Q, t' σ H Q → t σ H Q) : PT X e t' := ⟨fun pins s σ H Q I q => h.run pins s σ H Q I (k _ _ _ q)⟩
theorem PW.imp {e : Expr} {t t' : TT} (h : PW X e t) (k : ∀ σ H Q, t' σ H Q → t σ H Q) : PW X e t' := ⟨fun wh pins s σ H Q I q => h.run wh pins s σ H Q I (k _ _ _ q)⟩
theorem PA.imp {e : List Expr} {t t' : TA} (h : PA X e t) (k : ∀ σ H Q, t' σ H Q → t σ H Q) : PA X e t' := ⟨fun pos pins s σ H Q I q => h.run pos pins s σ H Q I (k _ _ _ q)⟩
theorem PS.imp {e : Stmt} {t t' : TS} (h : PS X e t) (k : ∀ D σ H, t' D σ H → t D σ H) : PS X e t' := ⟨fun pins s σ H D I q => h.run pins s σ H D I (k _ _ _ q)⟩
theorem PSs.imp {e : List Stmt} {t t' : TS} (h : PSs X e t) (k : ∀ D σ H, t' D σ H → t D σ H) : PSs X e t' := ⟨fun pins s σ H D I q => h.run pins s σ H D I (k _ _ _ q)⟩
theorem PI.imp {tg e : Expr} {t t' : TI} (h : PI X tg e t) (k : ∀ σ H R, t' σ H R → t σ H R) : PI X tg e t' := ⟨fun pins s σ H R I q => h.run pins s σ H R I (k _ _ _ q)⟩
theorem PG.imp {e : Expr} {t t' : TG} (h : PG X e t) (k : ∀ v σ H Q, t' v σ H Q → t v σ H Q) : PG X e t' := ⟨fun pins s σ H v u Q I r q => h.run pins s σ H v u Q I r (k _ _ _ _ q)⟩
theorem PG.or {e : Expr} {t t' : TG} (h : PG X e t) (h' : PG X e t') : PG X e (fun v σ H Q => t v σ H Q ∨ t' v σ H Q) := ⟨fun pins s σ H v u Q I r q => q.elim (fun q => h.run pins s σ H v u Q I r q) fun q => h'.run pins s σ H v u Q I r q⟩
theorem PI.or {tg e : Expr} {t t' : TI} (h : PI X tg e t) (h' : PI X tg e t') : PI X tg e (fun σ H R => t σ H R ∨ t' σ H R) := ⟨fun pins s σ H R I q => q.elim (fun q => h.run pins s σ H R I q) fun q => h'.run pins s σ H R I q⟩
theorem CallR.or {f : Value} {r r' : List V → Hp → VK → Prop} (h : CallR X f r) (h' : CallR X f r') : CallR X f (fun x H Q => r x H Q ∨ r' x H Q) := fun pins s σ H x v Q I rx q => q.elim (fun q => h pins s σ H x v Q I rx q) fun q => h' pins s σ H x v Q I rx q

def CPowW (i j : Int) : Prop := 0 ≤ j ∧ (Builtin.Int.intBits i : Int) * j ≤ 2 ^ 27
theorem op_powW : OpR X (binaryOp .Pow) (rI CPowW fun i j => .int (i ^ j.toNat)) := opI fun _ _ _ _ _ _ _ hc q => pow_int hc.1 hc.2 q
def rInT (K : PySem.W.Frag) : R2 := fun x y H Q => ∃ d ds, Dp K H x d ∧ Dp K H y (.tuple ds) ∧ SeqAt.shaped d = true ∧ SeqAt.shaped (.tuple ds) = true ∧ Q (.bl (ds.any fun z => PyData.eqv z d)) H
def rNotInT (K : PySem.W.Frag) : R2 := fun x y H Q => ∃ d ds, Dp K H x d ∧ Dp K H y (.tuple ds) ∧ SeqAt.shaped d = true ∧ SeqAt.shaped (.tuple ds) = true ∧ Q (.bl (!ds.any fun z => PyData.eqv z d)) H
theorem op_inT (hu : X.A.units + 65 < cLine) : OpR X (compareOp .In) (rInT X.K) := by
  intro pins s σ H x y v u Q I rx ry h
  obtain ⟨d, ds, hd, he, sd, se, q⟩ := h
  obtain ⟨as, r1⟩ := Dp.reads I d x v hd rx
  obtain ⟨bs, r2⟩ := Dp.reads I (.tuple ds) y u he ry
  exact SeqAt.in_tuple_reads r2 r1 (SeqAt.canLay_of_shaped se) (SeqAt.canLay_of_shaped sd) (room_in_shaped sd hu) ⟨.bl _, H, I, rfl, q⟩
theorem op_notInT (hu : X.A.units + 65 < cLine) : OpR X (compareOp .NotIn) (rNotInT X.K) := by
  intro pins s σ H x y v u Q I rx ry h
  obtain ⟨d, ds, hd, he, sd, se, q⟩ := h
  obtain ⟨as, r1⟩ := Dp.reads I d x v hd rx
  obtain ⟨bs, r2⟩ := Dp.reads I (.tuple ds) y u he ry
  exact SeqAt.notIn_tuple_reads r2 r1 (SeqAt.canLay_of_shaped se) (SeqAt.canLay_of_shaped sd) (room_in_shaped sd hu) ⟨.bl _, H, I, rfl, q⟩
/-! min, max of a tuple -/
section
variable {prog : Program} {w : World} {A : Around} {E : Value → Shared → Prop} {s : Shared} {l : Addr} {xs : Array (Int × Tok)}
theorem iter_intTup {Q : Value → Shared → Prop} (hl : s.heap.IsTuple l (intItems xs))
    (h : ∀ s₂ : Shared, s₂ = { s with heap := s.heap.push { cls := .type "tuple_iterator", data := .fields #[.ref l, .int 0 0] } } →
      (s₂.heap.IsTupleIter s.heap.objs.size l 0 ∧ s₂.heap.IsTuple l (intItems xs)) → (∀ b ∈ [s.heap.objs.size, l], b < s₂.heap.objs.size) → l ≠ s.heap.objs.size → Q (.ref s.heap.objs.size) s₂) :
    wpAny (model prog w) A (pyIter (.ref l)) Q E s := by
  have hlt : l < s.heap.objs.size := by obtain ⟨_, e, _⟩ := hl; exact Heap.lt_size e
  refine wpAny_pyIter_tuple hl (h _ rfl ⟨⟨_, Heap.get?_push_size _ rfl, rfl, rfl⟩, hl.push _⟩ (fun b hb => ?_) (Nat.ne_of_lt hlt))
  show b < (s.heap.push _).objs.size
  rw [Heap.size_push]
  rcases List.mem_cons.mp hb with rfl | hb
  · exact Nat.lt_succ_self _
  · rcases List.mem_cons.mp hb with rfl | hb
    · exact Nat.lt_succ_of_lt hlt
    · cases hb
theorem old_keptT {h' : Heap} (hk : ∀ b o, b ∉ [s.heap.objs.size] → (s.heap.push { cls := .type "tuple_iterator", data := .fields #[.ref l, .int 0 0] }).get? b = some o → h'.get? b = some o) :
    ∀ b o, s.heap.get? b = some o → h'.get? b = some o := fun b o e => by
  refine hk b o (fun hm => ?_) (Heap.get?_push_of_some _ e)
  rcases List.mem_cons.mp hm with e1 | hm
  · exact absurd (e1 ▸ Heap.lt_size e) (Nat.lt_irrefl _)
  · cases hm
theorem max_intTup {Q : Value → Shared → Prop} (hh : A.handled = none) (hl : s.heap.IsTuple l (intItems xs)) (hne : 0 < xs.size)
    (h : ∀ v h' tk, (intItems xs)[argBest (fun i j => decide (numAt xs i > numAt xs j)) (xs.size - 1)]? = some v → (∀ b o, s.heap.get? b = some o → h'.get? b = some o) → Q v { s with heap := h', toks := tk }) :
    wpAny (model prog w) A (call (.builtin "max") [.ref l]) Q E s := by
  refine call_max_walk (iter_intTup hl fun s₂ e st hfp hlI => ?_)
  subst e
  refine ⟨_, _, _, _, _, _, _, rfl, Walks.tuple (A := A.in1) hh _ l hlI (intItems xs), st, hfp, by simpa [intItems] using hne, CmpOf.ints_gt (numAt xs) (fun _ _ => intItems_at), fun v h' tk hP hk => ?_⟩
  exact h v h' tk (by simpa [intItems] using hP) (old_keptT hk)
theorem min_intTup {Q : Value → Shared → Prop} (hh : A.handled = none) (hl : s.heap.IsTuple l (intItems xs)) (hne : 0 < xs.size)
    (h : ∀ v h' tk, (intItems xs)[argBest (fun i j => decide (numAt xs i < numAt xs j)) (xs.size - 1)]? = some v → (∀ b o, s.heap.get? b = some o → h'.get? b = some o) → Q v { s with heap := h', toks := tk }) :
    wpAny (model prog w) A (call (.builtin "min") [.ref l]) Q E s := by
  refine call_min_walk (iter_intTup hl fun s₂ e st hfp hlI => ?_)
  subst e
  refine ⟨_, _, _, _, _, _, _, rfl, Walks.tuple (A := A.in1) hh _ l hlI (intItems xs), st, hfp, by simpa [intItems] using hne, CmpOf.ints_lt (numAt xs) (fun _ _ => intItems_at), fun v h' tk hP hk => ?_⟩
  exact h v h' tk (by simpa [intItems] using hP) (old_keptT hk)
variable {its : List Value} {ns : List Int} {Q : Value → Shared → Prop}
theorem max_rawT (hh : A.handled = none) (hl : s.heap.IsTuple l its.toArray) (hi : IntsAre its ns) (hne : 0 < ns.length)
    (h : ∀ h' tk M t', (∀ b o, s.heap.get? b = some o → h'.get? b = some o) → M ∈ ns → (∀ a, a ∈ ns → a ≤ M) → Q (.int M t') { s with heap := h', toks := tk }) : wpAny (model prog w) A (call (.builtin "max") [.ref l]) Q E s := by
  obtain ⟨xs, e⟩ := hi.allInts.items
  have hn : numsOf (intItems xs).toList = ns := by rw [← e]; exact hi.numsOf
  rw [nums_intItems] at hn
  subst hn
  rw [e] at hl
  have hsz : 0 < xs.size := by simpa using hne
  refine max_intTup hh hl hsz fun v h' tk hv hk => ?_
  obtain ⟨t, rfl⟩ := intItems_at hv
  obtain ⟨h1, h2⟩ := argBest_gt (numAt xs) (xs.size - 1)
  refine h h' tk _ t hk ?_ fun a ha => ?_
  · rw [numAt_eq]; exact PySem.getD_mem (by rw [List.length_map, Array.length_toList]; omega)
  · obtain ⟨j, hj, rfl⟩ := mem_getD ha
    rw [List.length_map, Array.length_toList] at hj
    rw [← numAt_eq]; exact h2 j (by omega)
theorem min_rawT (hh : A.handled = none) (hl : s.heap.IsTuple l its.toArray) (hi : IntsAre its ns) (hne : 0 < ns.length)
    (h : ∀ h' tk M t', (∀ b o, s.heap.get? b = some o → h'.get? b = some o) → M ∈ ns → (∀ a, a ∈ ns → M ≤ a) → Q (.int M t') { s with heap := h', toks := tk }) : wpAny (model prog w) A (call (.builtin "min") [.ref l]) Q E s := by
  obtain ⟨xs, e⟩ := hi.allInts.items
  have hn : numsOf (intItems xs).toList = ns := by rw [← e]; exact hi.numsOf
  rw [nums_intItems] at hn
  subst hn
  rw [e] at hl
  have hsz : 0 < xs.size := by simpa using hne
  refine min_intTup hh hl hsz fun v h' tk hv hk => ?_
  obtain ⟨t, rfl⟩ := intItems_at hv
  obtain ⟨h1, h2⟩ := argBest_lt (numAt xs) (xs.size - 1)
  refine h h' tk _ t hk ?_ fun a ha => ?_
  · rw [numAt_eq]; exact PySem.getD_mem (by rw [List.length_map, Array.length_toList]; omega)
  · obtain ⟨j, hj, rfl⟩ := mem_getD ha
    rw [List.length_map, Array.length_toList] at hj
    rw [← numAt_eq]; exact h2 j (by omega)
end
def rMaxT (K : PySem.W.Frag) : List V → Hp → VK → Prop := fun vs H Q => ∃ (a : Addr) (ns : List Int), vs = [V.ref a] ∧ SqT K H a (ns.map V.int) ∧ 0 < ns.length ∧ ∀ m, m ∈ ns → (∀ y, y ∈ ns → y ≤ m) → Q (.int m) H
def rMinT (K : PySem.W.Frag) : List V → Hp → VK → Prop := fun vs H Q => ∃ (a : Addr) (ns : List Int), vs = [V.ref a] ∧ SqT K H a (ns.map V.int) ∧ 0 < ns.length ∧ ∀ m, m ∈ ns → (∀ y, y ∈ ns → m ≤ y) → Q (.int m) H
theorem cr_maxT (hc : X.calm = true) : CallR X (.builtin "max") (rMaxT X.K) := by
  intro pins s σ H vs us Q I r h
  obtain ⟨a, ns, rfl, hs, hne, q⟩ := h
  obtain ⟨its, rv, hl, _⟩ := I.tuple hs
  rw [Vals.ref1 r]
  exact max_rawT (I.ok.hd hc) hl rv.ints hne fun h' tk m t' hk h1 h2 => ⟨.int _, H, I.kept hk, ⟨_, rfl⟩, q m h1 h2⟩
theorem cr_minT (hc : X.calm = true) : CallR X (.builtin "min") (rMinT X.K) := by
  intro pins s σ H vs us Q I r h
  obtain ⟨a, ns, rfl, hs, hne, q⟩ := h
  obtain ⟨its, rv, hl, _⟩ := I.tuple hs
  rw [Vals.ref1 r]
  exact min_rawT (I.ok.hd hc) hl rv.ints hne fun h' tk m t' hk h1 h2 => ⟨.int _, H, I.kept hk, ⟨_, rfl⟩, q m h1 h2⟩
end
end G

namespace G
open PySem PySem.Spec PyProof.Rows L2
open Classical
noncomputable section
/-! ### the operations by values -/
section
variable {K : PySem.W.Frag} {cA : Nat → Addr} {c : Cf} {H : Hp} {s : Sto} {d : D} {x : V}
theorem dInt_p {i : Int} (h : dInt d = some i) : d = .p (.int i) := by
  unfold dInt at h
  split at h
  · cases h; rfl
  · cases h
theorem dBool_p {i : Bool} (h : dBool d = some i) : d = .p (.bool i) := by
  unfold dBool at h
  split at h
  · cases h; rfl
  · cases h
theorem dStr_p {i : Str} (h : dStr d = some i) : d = .p (.str i) := by
  unfold dStr at h
  split at h
  · cases h; rfl
  · cases h
theorem v_int {i : Int} (h : RepV K c (.p (.int i)) x) : x = .int i := by cases h; rfl
theorem v_bool {i : Bool} (h : RepV K c (.p (.bool i)) x) : x = .bl i := by cases h; rfl
theorem v_str {i : Str} (h : RepV K c (.p (.str i)) x) : x = .str i := by cases h; rfl
theorem v_non (h : RepV K c (.p .none) x) : x = .non := by cases h; rfl
theorem dInt_v {i : Int} (h : dInt d = some i) (r : RepV K c d x) : x = .int i := by
  rw [dInt_p h] at r
  exact v_int r
theorem dBool_v {i : Bool} (h : dBool d = some i) (r : RepV K c d x) : x = .bl i := by
  rw [dBool_p h] at r
  exact v_bool r
theorem dStr_v {i : Str} (h : dStr d = some i) (r : RepV K c d x) : x = .str i := by
  rw [dStr_p h] at r
  exact v_str r
theorem ok_int {i : Int} : RepV K c (.p (.int i)) (.int i) := .int i
theorem ok_bl {i : Bool} : RepV K c (.p (.bool i)) (.bl i) := .bl i
theorem ok_non : RepV K c (.p .none) .non := .non
end
section
variable {X : Cx} {cA : Nat → Addr}
def rB (K : PySem.W.Frag) (cA : Nat → Addr) (g : D → D → Sto → R D) : R2 := fun x y H Q => ∃ c d1 d2 s W, Rep K cA c H s ∧ RepV K c d1 x ∧ RepV K c d2 y ∧ Post K cA c H (g d1 d2 s) (okQ K Q) W
def rU1 (K : PySem.W.Frag) (cA : Nat → Addr) (g : D → Sto → R D) : List V → Hp → VK → Prop := fun xs H Q => ∃ x c d s W, xs = [x] ∧ Rep K cA c H s ∧ RepV K c d x ∧ Post K cA c H (g d s) (okQ K Q) W
/-- which operator -/
def aBop : Bop → Operator
  | .add => .Add
  | .sub => .Sub
  | .mul => .Mult
  | .fdiv => .FloorDiv
  | .mod => .Mod
  | .pow => .Pow
def aCop : Cop → CmpOp
  | .eq => .Eq
  | .ne => .NotEq
  | .lt => .Lt
  | .le => .LtE
  | .gt => .Gt
  | .ge => .GtE
  | .is_ => .Is
  | .isn => .IsNot
  | .in_ => .In
  | .nin => .NotIn
theorem repVs_append {K : PySem.W.Frag} {c : Cf} : ∀ {xs ys : List D} {vs ws : List V}, RepVs K c xs vs → RepVs K c ys ws → RepVs K c (xs ++ ys) (vs ++ ws)
  | _, _, _, _, .nil, h => h
  | _, _, _, _, .cons a t, h => .cons a (repVs_append t h)
theorem repVs_rep {K : PySem.W.Frag} {c : Cf} {xs : List D} {vs : List V} (h : RepVs K c xs vs) : ∀ n : Nat, RepVs K c (List.replicate n xs).flatten (List.replicate n vs).flatten
  | 0 => .nil
  | n + 1 => by
    rw [List.replicate_succ, List.replicate_succ, List.flatten_cons, List.flatten_cons]
    exact repVs_append h (repVs_rep h n)
theorem ob_bin (op : Bop) (fl : Bool) : OpR X (binaryOp (aBop op)) (rB X.K cA (binop op fl)) := by
  cases op with
  | add =>
    refine OpR.imp (OpR.or op_add op_cat) ?_
    rintro x y H Q ⟨c, d1, d2, s, W, r, h1, h2, h⟩
    have cat : Post X.K cA c H (match asL s d1, asL s d2 with
      | some xs, some ys => mkL fl (xs ++ ys) s
      | _, _ => .bad) (okQ X.K Q) W → rCat x y H Q := fun h => by
      cases e1 : asL s d1 with
      | none => rw [e1] at h; exact h.elim
      | some xs =>
        cases e2 : asL s d2 with
        | none => rw [e1, e2] at h; exact h.elim
        | some ys =>
          rw [e1, e2] at h
          obtain ⟨a, vs, rfl, ha, hv⟩ := r.asL e1 h1
          obtain ⟨b, ws, rfl, hb, hw⟩ := r.asL e2 h2
          obtain ⟨l1, l2⟩ := mkL_new r (repVs_append hv hw) h
          exact ⟨a, b, vs, ws, rfl, rfl, ha, hb, by rw [← List.length_append]; exact lim_le l1, l2⟩
    unfold binop at h
    cases e1 : dInt d1 with
    | none => rw [e1] at h; exact .inr (cat h)
    | some i =>
      cases e2 : dInt d2 with
      | none => rw [e1, e2] at h; exact .inr (cat h)
      | some j =>
        rw [e1, e2] at h
        exact .inl ⟨i, j, dInt_v e1 h1, dInt_v e2 h2, h.ok r _ ok_int⟩
  | sub =>
    refine OpR.imp op_sub ?_
    rintro x y H Q ⟨c, d1, d2, s, W, r, h1, h2, h⟩
    unfold binop at h
    cases e1 : dInt d1 with
    | none => rw [e1] at h; exact h.elim
    | some i =>
      cases e2 : dInt d2 with
      | none => rw [e1, e2] at h; exact h.elim
      | some j =>
        rw [e1, e2] at h
        exact ⟨i, j, dInt_v e1 h1, dInt_v e2 h2, h.ok r _ ok_int⟩
  | mul =>
    refine OpR.imp (OpR.or (OpR.or op_mul op_mulW) op_rep) ?_
    rintro x y H Q ⟨c, d1, d2, s, W, r, h1, h2, h⟩
    unfold binop at h
    cases e2 : dInt d2 with
    | none =>
      cases e1 : dInt d1 with
      | none => rw [e1, e2] at h; exact h.elim
      | some i => rw [e1, e2] at h; exact h.elim
    | some j =>
      cases e1 : dInt d1 with
      | none =>
        rw [e1, e2] at h
        cases e3 : asL s d1 with
        | none => rw [e3] at h; exact h.elim
        | some xs =>
          rw [e3] at h
          obtain ⟨⟨k1, k2, k3⟩, h⟩ := h.if_
          obtain ⟨a, vs, rfl, ha, hv⟩ := r.asL e3 h1
          obtain ⟨l1, l2⟩ := mkL_new r (repVs_rep hv j.toNat) h
          refine .inr ⟨a, j, vs, rfl, dInt_v e2 h2, ha, by omega, by omega, ?_, l2⟩
          have e := Paired.length hv
          have : vs.length * j.toNat ≤ 1000 * 1000 := Nat.mul_le_mul (by omega) (by omega)
          exact Nat.le_trans this (by decide)
      | some i =>
        rw [e1, e2] at h
        obtain ⟨hc, h⟩ := h.if_
        rcases hc with hc | hc
        · exact .inl (.inl ⟨i, j, dInt_v e1 h1, dInt_v e2 h2, hc, h.ok r _ ok_int⟩)
        · exact .inl (.inr ⟨i, j, dInt_v e1 h1, dInt_v e2 h2, hc, h.ok r _ ok_int⟩)
  | fdiv =>
    refine OpR.imp (OpR.or op_fdiv op_fdivW) ?_
    rintro x y H Q ⟨c, d1, d2, s, W, r, h1, h2, h⟩
    unfold binop at h
    cases e1 : dInt d1 with
    | none => rw [e1] at h; exact h.elim
    | some i =>
      cases e2 : dInt d2 with
      | none => rw [e1, e2] at h; exact h.elim
      | some j =>
        rw [e1, e2] at h
        obtain ⟨⟨k1, k2⟩, h⟩ := h.if_
        rcases k2 with k2 | k2
        · exact .inl ⟨i, j, dInt_v e1 h1, dInt_v e2 h2, ⟨k1, k2⟩, h.ok r _ ok_int⟩
        · exact .inr ⟨i, j, dInt_v e1 h1, dInt_v e2 h2, ⟨k1, k2⟩, h.ok r _ ok_int⟩
  | mod =>
    refine OpR.imp op_mod ?_
    rintro x y H Q ⟨c, d1, d2, s, W, r, h1, h2, h⟩
    unfold binop at h
    cases e1 : dInt d1 with
    | none => rw [e1] at h; exact h.elim
    | some i =>
      cases e2 : dInt d2 with
      | none => rw [e1, e2] at h; exact h.elim
      | some j =>
        rw [e1, e2] at h
        obtain ⟨k1, h⟩ := h.if_
        exact ⟨i, j, dInt_v e1 h1, dInt_v e2 h2, k1, h.ok r _ ok_int⟩
  | pow =>
    refine OpR.imp op_powW ?_
    rintro x y H Q ⟨c, d1, d2, s, W, r, h1, h2, h⟩
    unfold binop at h
    cases e1 : dInt d1 with
    | none => rw [e1] at h; exact h.elim
    | some i =>
      cases e2 : dInt d2 with
      | none => rw [e1, e2] at h; exact h.elim
      | some j =>
        rw [e1, e2] at h
        obtain ⟨k1, h⟩ := h.if_
        exact ⟨i, j, dInt_v e1 h1, dInt_v e2 h2, k1, h.ok r _ ok_int⟩
theorem sEr_ok {K : PySem.W.Frag} {c : Cf} {H : Hp} {s : Sto} {d1 d2 : D} {x y : V} {k : Bool} (r : Rep K cA c H s) (h1 : RepV K c d1 x) (h2 : RepV K c d2 y) (e : sEr d1 d2 s = some k) :
    ∃ a b, Dp K H x a ∧ Dp K H y b ∧ SeqAt.shaped a = true ∧ SeqAt.shaped b = true ∧ PyData.eqv a b = k := by
  unfold sEr at e
  cases e1 : res 8 s d1 with
  | none => rw [e1] at e; cases e
  | some a =>
    cases e2 : res 8 s d2 with
    | none => rw [e1, e2] at e; cases e
    | some b =>
      rw [e1, e2] at e
      dsimp only at e
      split at e
      · rename_i hs
        cases e
        exact ⟨a, b, r.res 8 e1 h1, r.res 8 e2 h2, hs.1, hs.2, rfl⟩
      · cases e
theorem sEq_ok {K : PySem.W.Frag} {c : Cf} {H : Hp} {s : Sto} {d1 d2 : D} {x y : V} {k : Bool} (r : Rep K cA c H s) (h1 : RepV K c d1 x) (h2 : RepV K c d2 y) (e : sEq d1 d2 s = some k) :
    (∃ a b : Str, x = .str a ∧ y = .str b ∧ decide (a = b) = k) ∨ ∃ a b, Dp K H x a ∧ Dp K H y b ∧ SeqAt.shaped a = true ∧ SeqAt.shaped b = true ∧ PyData.eqv a b = k := by
  unfold sEq at e
  split at e
  · rename_i b' q
    cases e
    unfold sEs at q
    split at q
    · cases q
      cases h1
      cases h2
      exact .inl ⟨_, _, rfl, rfl, rfl⟩
    · cases q
  · exact .inr (sEr_ok r h1 h2 e)
theorem dec_str {a b : Str} : decide (V.str a = V.str b) = decide (a = b) := by
  by_cases h : a = b
  · subst h
    simp
  · rw [decide_eq_false h, decide_eq_false fun z => h (V.str.inj z)]
theorem v_isNone {K : PySem.W.Frag} {c : Cf} {d : D} {y : V} (h : RepV K c d y) : isNone d = decide (y = .non) := by
  cases d with
  | p q =>
    cases h with
    | non => rfl
    | bl b => exact (decide_eq_false (fun z => by cases z)).symm
    | int b => exact (decide_eq_false (fun z => by cases z)).symm
    | str b => exact (decide_eq_false (fun z => by cases z)).symm
    | lst h t => exact (decide_eq_false (fun z => by cases z)).symm
    | tup h t => exact (decide_eq_false (fun z => by cases z)).symm
  | o n =>
    obtain ⟨a, _, rfl⟩ := h
    exact (decide_eq_false (fun z => by cases z)).symm
  | s l =>
    obtain ⟨a, _, rfl, _⟩ := h
    exact (decide_eq_false (fun z => by cases z)).symm
theorem str_one {a : Str} (h : a.cps.size = 1) : a = ⟨#[a.cps.getD 0 0]⟩ := by
  obtain ⟨⟨l⟩⟩ := a
  match l, h with
  | [x], _ => rfl
theorem sIn_ok {K : PySem.W.Frag} {c : Cf} {H : Hp} {s : Sto} {d1 d2 : D} {x y : V} {k : Bool} (r : Rep K cA c H s) (h1 : RepV K c d1 x) (h2 : RepV K c d2 y) (e : sIn d1 d2 s = some k) :
    (∃ (q : Nat) (z : Str), x = .str ⟨#[q]⟩ ∧ y = .str z ∧ decide (q ∈ z.cps.toList) = k) ∨
    (∃ d ds, Dp K H x d ∧ Dp K H y (.list ds) ∧ SeqAt.shaped d = true ∧ SeqAt.shaped (.list ds) = true ∧ (ds.any fun z => PyData.eqv z d) = k) ∨
    (∃ d ds, Dp K H x d ∧ Dp K H y (.tuple ds) ∧ SeqAt.shaped d = true ∧ SeqAt.shaped (.tuple ds) = true ∧ (ds.any fun z => PyData.eqv z d) = k) := by
  have gen : ∀ a : PyData, res 8 s d1 = some a → (match res 8 s d2 with
    | some (.list ds) => if SeqAt.shaped a = true ∧ SeqAt.shaped (.list ds) = true then some (ds.any fun z => PyData.eqv z a) else none
    | some (.tuple ds) => if SeqAt.shaped a = true ∧ SeqAt.shaped (.tuple ds) = true then some (ds.any fun z => PyData.eqv z a) else none
    | _ => none) = some k → (∃ d ds, Dp K H x d ∧ Dp K H y (.list ds) ∧ SeqAt.shaped d = true ∧ SeqAt.shaped (.list ds) = true ∧ (ds.any fun z => PyData.eqv z d) = k) ∨
    (∃ d ds, Dp K H x d ∧ Dp K H y (.tuple ds) ∧ SeqAt.shaped d = true ∧ SeqAt.shaped (.tuple ds) = true ∧ (ds.any fun z => PyData.eqv z d) = k) := fun a e1 e => by
    split at e
    · rename_i ds e2
      split at e
      · rename_i hs
        cases e
        exact .inl ⟨a, ds, r.res 8 e1 h1, r.res 8 e2 h2, hs.1, hs.2, rfl⟩
      · cases e
    · rename_i ds e2
      split at e
      · rename_i hs
        cases e
        exact .inr ⟨a, ds, r.res 8 e1 h1, r.res 8 e2 h2, hs.1, hs.2, rfl⟩
      · cases e
    · cases e
  unfold sIn at e
  split at e
  · rename_i a z e1
    split at e
    · rename_i hs
      cases e
      have q := r.res 8 e1 h1
      cases q
      refine .inl ⟨a.cps.getD 0 0, z, ?_, v_str h2, rfl⟩
      rw [← str_one hs]
    · cases e
  · rename_i a e1 hno
    exact .inr (gen a e1 e)
  · cases e
theorem ob_cmp (hr : X.A.units + 65 < cLine) (op : Cop) : OpR X (compareOp (aCop op)) (rB X.K cA (cmpop op)) := by
  cases op with
  | eq =>
    refine OpR.imp (OpR.or op_eq (op_eqD (by omega))) ?_
    rintro x y H Q ⟨c, d1, d2, s, W, r, h1, h2, h⟩
    obtain ⟨k, e, h⟩ := Post.bR h
    rcases sEq_ok r h1 h2 e with ⟨a, b, rfl, rfl, g5⟩ | ⟨a, b, g1, g2, g3, g4, g5⟩
    · exact .inl ⟨rfl, by rw [dec_str, g5]; exact h.ok r _ ok_bl⟩
    · exact .inr ⟨a, b, g1, g2, g3, g4, by rw [g5]; exact h.ok r _ ok_bl⟩
  | ne =>
    refine OpR.imp (OpR.or op_ne (op_neD (by omega))) ?_
    rintro x y H Q ⟨c, d1, d2, s, W, r, h1, h2, h⟩
    obtain ⟨k, e, h⟩ := Post.bR h
    cases e1 : sEq d1 d2 s with
    | none => rw [e1] at e; cases e
    | some k' =>
      rw [e1] at e
      have ek : (!k') = k := Option.some.inj e
      rcases sEq_ok r h1 h2 e1 with ⟨a, b, rfl, rfl, g5⟩ | ⟨a, b, g1, g2, g3, g4, g5⟩
      · exact .inl ⟨rfl, by rw [dec_str, g5, ek]; exact h.ok r _ ok_bl⟩
      · exact .inr ⟨a, b, g1, g2, g3, g4, by rw [g5, ek]; exact h.ok r _ ok_bl⟩
  | is_ =>
    refine OpR.imp op_isN ?_
    rintro x y H Q ⟨c, d1, d2, s, W, r, h1, h2, h⟩
    obtain ⟨e, h⟩ := h.if_
    rw [v_isNone h2] at e
    rw [v_isNone h1] at h
    exact ⟨of_decide_eq_true e, h.ok r _ ok_bl⟩
  | isn =>
    refine OpR.imp op_notN ?_
    rintro x y H Q ⟨c, d1, d2, s, W, r, h1, h2, h⟩
    obtain ⟨e, h⟩ := h.if_
    rw [v_isNone h2] at e
    rw [v_isNone h1] at h
    exact ⟨of_decide_eq_true e, h.ok r _ ok_bl⟩
  | in_ =>
    refine OpR.imp (OpR.or op_in_sign (OpR.or (op_inD hr) (op_inT hr))) ?_
    rintro x y H Q ⟨c, d1, d2, s, W, r, h1, h2, h⟩
    obtain ⟨k, e, h⟩ := Post.bR h
    rcases sIn_ok r h1 h2 e with ⟨q, z, g1, g2, g3⟩ | ⟨d, ds, g1, g2, g3, g4, g5⟩ | ⟨d, ds, g1, g2, g3, g4, g5⟩
    · exact .inl ⟨q, z, g1, g2, by rw [g3]; exact h.ok r _ ok_bl⟩
    · exact .inr (.inl ⟨d, ds, g1, g2, g3, g4, by rw [g5]; exact h.ok r _ ok_bl⟩)
    · exact .inr (.inr ⟨d, ds, g1, g2, g3, g4, by rw [g5]; exact h.ok r _ ok_bl⟩)
  | nin =>
    refine OpR.imp (OpR.or op_notIn_sign (OpR.or (op_notInD hr) (op_notInT hr))) ?_
    rintro x y H Q ⟨c, d1, d2, s, W, r, h1, h2, h⟩
    obtain ⟨k, e, h⟩ := Post.bR h
    cases e1 : sIn d1 d2 s with
    | none => rw [e1] at e; cases e
    | some k' =>
      rw [e1] at e
      have ek : (!k') = k := Option.some.inj e
      rcases sIn_ok r h1 h2 e1 with ⟨q, z, g1, g2, g3⟩ | ⟨d, ds, g1, g2, g3, g4, g5⟩ | ⟨d, ds, g1, g2, g3, g4, g5⟩
      · exact .inl ⟨q, z, g1, g2, by rw [g3, ek]; exact h.ok r _ ok_bl⟩
      · exact .inr (.inl ⟨d, ds, g1, g2, g3, g4, by rw [g5, ek]; exact h.ok r _ ok_bl⟩)
      · exact .inr (.inr ⟨d, ds, g1, g2, g3, g4, by rw [g5, ek]; exact h.ok r _ ok_bl⟩)
  | lt =>
    refine OpR.imp (OpR.or op_lt op_lt_str) ?_
    rintro x y H Q ⟨c, d1, d2, s, W, r, h1, h2, h⟩
    unfold cmpop at h
    dsimp only at h
    split at h
    · rename_i i j e1 e2
      exact .inl ⟨i, j, dInt_v e1 h1, dInt_v e2 h2, h.ok r _ ok_bl⟩
    · cases e1 : dStr d1 with
      | none => rw [e1] at h; exact h.elim
      | some i =>
        cases e2 : dStr d2 with
        | none => rw [e1, e2] at h; exact h.elim
        | some j =>
          rw [e1, e2] at h
          exact .inr ⟨i, j, dStr_v e1 h1, dStr_v e2 h2, h.ok r _ ok_bl⟩
  | le =>
    refine OpR.imp op_le ?_
    rintro x y H Q ⟨c, d1, d2, s, W, r, h1, h2, h⟩
    unfold cmpop at h
    dsimp only at h
    split at h
    · rename_i i j e1 e2
      exact ⟨i, j, dInt_v e1 h1, dInt_v e2 h2, h.ok r _ ok_bl⟩
    · exact h.elim
  | gt =>
    refine OpR.imp op_gt ?_
    rintro x y H Q ⟨c, d1, d2, s, W, r, h1, h2, h⟩
    unfold cmpop at h
    dsimp only at h
    split at h
    · rename_i i j e1 e2
      exact ⟨i, j, dInt_v e1 h1, dInt_v e2 h2, h.ok r _ ok_bl⟩
    · exact h.elim
  | ge =>
    refine OpR.imp op_ge ?_
    rintro x y H Q ⟨c, d1, d2, s, W, r, h1, h2, h⟩
    unfold cmpop at h
    dsimp only at h
    split at h
    · rename_i i j e1 e2
      exact ⟨i, j, dInt_v e1 h1, dInt_v e2 h2, h.ok r _ ok_bl⟩
    · exact h.elim
end
end
end G

namespace G
open PySem PySem.Spec PyProof.Rows L2
/-! ### defs called where no repr is under way (so that repr can be told); with the wish of what is raised at the caller's slots -/
structure FnG (P : Program) (w : World) (K : PySem.W.Frag) (mg : Str → Option Value) (base : Heap) (k : Nat) (f : Addr) (fd : FuncData) (ps : List Str) (sp : Sp) : Prop where
  len : ∀ vs H Q E, sp vs H Q E → vs.length = ps.length
  run : ∀ (A : Around) (outer : List PySem.Env) (s : Shared) (H : Hp) (args : Args) (us : List Value) (vs : List V) (Q : VK) (E : XK), Room k A → A.guards = some [] → Env0 P w K mg base A outer s H → BindsTo s fd args (ps.zip us) → Vals vs us → sp vs H Q E →
    codeAny (model P w) A (.call (.ref f) args) (CR (L2.CX P w) outer P w H s Q E) s
theorem FnG.mono {P : Program} {w : World} {K : PySem.W.Frag} {mg : Str → Option Value} {base : Heap} {j k : Nat} {f : Addr} {fd : FuncData} {ps : List Str} {sp : Sp} (F : FnG P w K mg base j f fd ps sp) (h : j ≤ k) : FnG P w K mg base k f fd ps sp :=
  ⟨F.len, fun A outer s H args us vs Q E hr => F.run A outer s H args us vs Q E (hr.mono h)⟩
section
variable {X : Cx} {k : Nat} {f C : Addr} {fd : FuncData} {ps : List Str} {sp : Sp} {E : L2.St → XK} {x m : Str} {p pos apos : Pos} {e o : Expr} {es : List Expr} {ta : TE} {t : TA}
theorem run_fnG {pins : List (Addr × Obj)} {σ : L2.St} {H : Hp} {s : Shared} {Q : VK} {us : List Value} {vs : List V} (F : FnG X.prog X.w X.K X.mg X.base k f fd ps sp) (hr : Room k X.A) (hg : X.A.guards = some []) (hb : Binds X.K fd ps []) (hx : PassesAt (L2.CX X.prog X.w) X σ (E σ))
    (I : Inv X pins σ H s) (r : Vals vs us) (h : sp vs H Q (E σ)) : wpAny (model X.prog X.w) X.A (call (.ref f) us) (EP X pins σ Q) X.xe s := by
  have hl : us.length = ps.length := by rw [← r.length]; exact F.len _ _ _ _ h
  have b := hb s us I.kIn (by rw [List.append_nil]; exact hl)
  rw [List.append_nil] at b
  refine wpAny_call (codeAny_mono (F.run X.A X.stack s H ⟨us, []⟩ us vs Q (E σ) hr hg I.env0 b r h) fun r s' hq => ?_)
  cases r with
  | error e => exact hx pins H s e s' I hq
  | ok fl =>
    cases fl with
    | ret u => exact I.after hq
    | next => exact False.elim hq
    | brk => exact False.elim hq
    | cont => exact False.elim hq
theorem pe_callG (F : FnG X.prog X.w X.K X.mg X.base k f fd ps sp) (hr : Room k X.A) (hgd : X.A.guards = some []) (hg : Gl X x) (hm : X.mg x = some (.ref f)) (hk : PySem.W.keepIn X.K (.ref f) = true) (hb : Binds X.K fd ps []) (hx : ∀ σ, PassesAt (L2.CX X.prog X.w) X σ (E σ))
    (ha : PA X (e :: es) t) (hdb : (x == ("__debug__" : Str)) = false) (he : starEach (e :: es) X.env = (false, eval e X.env) :: starEach es X.env) (hpl : (backTo pos (starEach es X.env)).any (·.1) = false) :
    PE X (.Call (.Name x p) (e :: es) [] pos) (tCallS sp E t) := by
  refine ⟨fun pins s σ H Q I h => ?_⟩
  refine wpAny_Call_Name_kw (ld_glob I hg hm ?_ hdb)
  refine PySem.W.callWith_K (h₀ := X.base) I.ok.mod.kin hk (thn (ha.run pos pins s σ H _ I h) fun us s1 ⟨vs, H1, I1, r, q⟩ => ⟨I1.kIn, ?_⟩) he hpl
  exact run_fnG F hr hgd hb (hx σ) I1 r q
theorem pe_call0G (F : FnG X.prog X.w X.K X.mg X.base k f fd ps sp) (hr : Room k X.A) (hgd : X.A.guards = some []) (hg : Gl X x) (hm : X.mg x = some (.ref f)) (hk : PySem.W.keepIn X.K (.ref f) = true) (hb : Binds X.K fd ps []) (hx : ∀ σ, PassesAt (L2.CX X.prog X.w) X σ (E σ))
    (hdb : (x == ("__debug__" : Str)) = false) : PE X (.Call (.Name x p) [] [] pos) (tCallS sp E tNil) := by
  refine ⟨fun pins s σ H Q I h => ?_⟩
  refine wpAny_Call_Name_kw (ld_glob I hg hm ?_ hdb)
  exact PySem.W.callWith_K0 I.kIn hk (run_fnG (us := []) F hr hgd hb (hx σ) I .nil h)
def tMethG (C : Addr) (m : Str) (sp : Sp) (E : L2.St → XK) (ta : TE) (t : TA) : TE := fun σ H Q => ta σ H fun x H1 => ∃ a dx fs, x = .ref a ∧ H1 a = some (.ins C dx fs) ∧ fs.lookup m = none ∧
  t σ H1 fun vs H2 => sp (x :: vs) H2 Q (E σ)
theorem pe_methG {pl : Sem Bool} (he : PE X o ta) (c : Cls X.K C) (hm : Meth X.K C m f) (F : FnG X.prog X.w X.K X.mg X.base k f fd ps sp) (hr : Room k X.A) (hgd : X.A.guards = some []) (hb : Binds X.K fd ps []) (hx : ∀ σ, PassesAt (L2.CX X.prog X.w) X σ (E σ)) (ha : PA X (e :: es) t)
    (hst : starEach (e :: es) X.env = (false, eval e X.env) :: starEach es X.env) (hpl : (backTo pos (starEach es X.env)).any (·.1) = false)
    (ht : eval (.Call (.Attribute o m apos) (e :: es) [] pos) X.env = (do
      let ov ← eval o X.env
      standAt apos.atName
      let (f, first) ← holding [ov] (getMethod ov m pl)
      callWith pos f first (backTo pos (starEach (e :: es) X.env)) (backToKw pos (keywordEach [] X.env)))) :
    PE X (.Call (.Attribute o m apos) (e :: es) [] pos) (tMethG C m sp E ta t) := by
  refine ⟨fun pins s σ H Q I h => ?_⟩
  refine PySem.W.methodCall_KW (pl := pl) (thn (he.run pins s σ H _ I h) fun u s1 ⟨x, H1, I1, rx, a, dx, fs, ex, ea, l, q⟩ => ?_) ht
  subst ex
  obtain rfl : u = Value.ref a := rx
  refine getmeth_ok I1 ea c hm l ?_
  refine PySem.W.callWith_K (first := [.ref a]) (h₀ := X.base) I.ok.mod.kin hm.kp (thn (ha.run pos pins s1 σ H1 _ I1 q) fun us s2 ⟨vs, H2, I2, r, q2⟩ => ⟨I2.kIn, ?_⟩) hst hpl
  exact run_fnG (us := .ref a :: us) (vs := .ref a :: vs) F hr hgd hb (hx σ) I2 (.cons rfl r) q2
theorem pe_meth0G {pl : Sem Bool} (he : PE X o ta) (c : Cls X.K C) (hm : Meth X.K C m f) (F : FnG X.prog X.w X.K X.mg X.base k f fd ps sp) (hr : Room k X.A) (hgd : X.A.guards = some []) (hb : Binds X.K fd ps []) (hx : ∀ σ, PassesAt (L2.CX X.prog X.w) X σ (E σ))
    (ht : eval (.Call (.Attribute o m apos) [] [] pos) X.env = (do
      let ov ← eval o X.env
      standAt apos.atName
      let (f, first) ← holding [ov] (getMethod ov m pl)
      callWith pos f first (backTo pos (starEach [] X.env)) (backToKw pos (keywordEach [] X.env)))) :
    PE X (.Call (.Attribute o m apos) [] [] pos) (tMethG C m sp E ta tNil) := by
  refine ⟨fun pins s σ H Q I h => ?_⟩
  refine PySem.W.methodCall_KW (pl := pl) (thn (he.run pins s σ H _ I h) fun u s1 ⟨x, H1, I1, rx, a, dx, fs, ex, ea, l, q⟩ => ?_) ht
  subst ex
  obtain rfl : u = Value.ref a := rx
  refine getmeth_ok I1 ea c hm l ?_
  exact PySem.W.callWith_K0 (first := [.ref a]) I1.kIn hm.kp (run_fnG (us := [.ref a]) (vs := [.ref a]) F hr hgd hb (hx σ) I1 (.cons rfl .nil) q)
theorem guards_make {A : Around} (h : A.guards = some []) (C : Addr) (us : List Value) : (A.under (.builtin "type.__call__" ⟨.ref C :: us, []⟩)).guards = some [] := by
  show pushGuards (Code.builtin "type.__call__" ⟨.ref C :: us, []⟩).guards A.guards = some []
  rw [h]
  rfl
/-- C(..) -/
def tMakeG (C : Addr) (sp : Sp) (E : XK) (t : TA) : TE := fun σ H Q => t σ H fun vs H1 => ∀ x dx, H1 x = none → H1 dx = none → dx ≠ x →
  sp (.ref x :: vs) (upd (upd H1 dx (.own x)) x (.ins C dx [])) (fun v H2 => v = .non ∧ Q (.ref x) H2) E
theorem run_makeG {pins : List (Addr × Obj)} {σ : L2.St} {H : Hp} {s : Shared} {Q : VK} {us : List Value} {vs : List V} {E : XK} (M : Mk X.K C f) (F : FnG X.prog X.w X.K X.mg X.base k f fd ps sp) (hr : Room (k + 1) X.A) (hgd : X.A.guards = some []) (hb : Binds X.K fd ps [])
    (hx : Passes (L2.CX X.prog X.w) X E) (I : Inv X pins σ H s) (r : Vals vs us)
    (h : ∀ x dx, H x = none → H dx = none → dx ≠ x → sp (.ref x :: vs) (upd (upd H dx (.own x)) x (.ins C dx [])) (fun v H2 => v = .non ∧ Q (.ref x) H2) E) :
    wpAny (model X.prog X.w) X.A (call (.ref C) us) (EP X pins σ Q) X.xe s := by
  have hq := h (s.heap.objs.size + 1) s.heap.objs.size (I.hok.fresh (Nat.le_succ _)) (I.hok.fresh (Nat.le_refl _)) (Nat.ne_of_lt (Nat.lt_succ_self _))
  have I2 := Inv.made (C := C) I
  have r2 : Vals (V.ref (s.heap.objs.size + 1) :: vs) (Value.ref (s.heap.objs.size + 1) :: us) := .cons rfl r
  have hl : (Value.ref (s.heap.objs.size + 1) :: us).length = ps.length := by
    have e := r2.length
    rw [F.len _ _ _ _ hq] at e
    exact e.symm
  have hb2 := hb _ (Value.ref (s.heap.objs.size + 1) :: us) I2.kIn (by rw [List.append_nil]; exact hl)
  rw [List.append_nil] at hb2
  refine wpAny_call (make_map (f := f) I.kIn M.makes M.init (beq_iff_eq.mp M.fn) (codeAny_mono (F.run _ X.stack _ _ ⟨Value.ref (s.heap.objs.size + 1) :: us, []⟩ (Value.ref (s.heap.objs.size + 1) :: us) _ _ E (hr.make C us [])
    (guards_make hgd C us) (I2.env0.make C us []) hb2 r2 hq) fun r s' hq' => ?_))
  cases r with
  | error e => exact hx pins σ _ _ e s' I2 hq'
  | ok fl =>
    cases fl with
    | ret u =>
      obtain ⟨v, H', I3, rv, ev, q3⟩ := I2.after hq'
      subst ev
      exact ⟨rv, ⟨V.ref (s.heap.objs.size + 1), H', I3, rfl, q3⟩⟩
    | next => exact False.elim hq'
    | brk => exact False.elim hq'
    | cont => exact False.elim hq'
theorem pe_makeG {E : XK} (M : Mk X.K C f) (F : FnG X.prog X.w X.K X.mg X.base k f fd ps sp) (hr : Room (k + 1) X.A) (hgd : X.A.guards = some []) (hg : Gl X x) (hm : X.mg x = some (.ref C)) (hb : Binds X.K fd ps []) (hx : Passes (L2.CX X.prog X.w) X E)
    (ha : PA X (e :: es) t) (hdb : (x == ("__debug__" : Str)) = false) (he : starEach (e :: es) X.env = (false, eval e X.env) :: starEach es X.env) (hpl : (backTo pos (starEach es X.env)).any (·.1) = false) :
    PE X (.Call (.Name x p) (e :: es) [] pos) (tMakeG C sp E t) := by
  refine ⟨fun pins s σ H Q I h => ?_⟩
  refine wpAny_Call_Name_kw (ld_glob I hg hm ?_ hdb)
  refine PySem.W.callWith_K (h₀ := X.base) I.ok.mod.kin M.kp (thn (ha.run pos pins s σ H _ I h) fun us s1 ⟨vs, H1, I1, r, q⟩ => ⟨I1.kIn, ?_⟩) he hpl
  exact run_makeG M F hr hgd hb hx I1 r q
end
/-- a def keeps its promise, by its body -/
theorem fn_ofG {P : Program} {w : World} {K : PySem.W.Frag} {mg : Str → Option Value} {base : Heap} {k : Nat} {f : Addr} {name qual : Str} {params : Arguments} {body : List Stmt} {scope : Scope} {dV kV doc pm cdv ct oc : Value} {an od : Option Addr}
    {osl : Array (Option Value)} {N ps : List Str} {sp : Sp} (lk : K.lookup f = some ⟨oc, od, .func (PySem.W.fnOf name qual params body scope dV kV doc pm an cdv ct), osl⟩) (hcd : PySem.W.codeIn K cdv qual = true) (S : FnScope N ps scope)
    (len : ∀ vs H Q E, sp vs H Q E → vs.length = ps.length)
    (hbody : ∀ (A : Around) (outer : List PySem.Env) (s : Shared) (H : Hp) (vs : List V) (Q : VK) (E : XK), Room k (A.deeper (envOfC qual scope s.heap.objs.size f cdv)) → (A.deeper (envOfC qual scope s.heap.objs.size f cdv)).guards = some [] → sp vs H Q E →
      ∃ t, PSs (cxOf (L2.CX P w) P w K mg base N qual scope f cdv A outer s H E) body t ∧ t { nx := fun _ H' => Q .non H', rt := Q } (start N vs) H) :
    FnG P w K mg base (k + 1) f (PySem.W.fnOf name qual params body scope dV kV doc pm an cdv ct) ps sp := by
  refine ⟨len, fun A outer s H args us vs Q E hr hgd e0 hb r hsp => ?_⟩
  have hl := len _ _ _ _ hsp
  have KX : K.In s.heap := e0.mod.kin.keeps fun b o e => (e0.bs b o e).1
  have lim : s.heap.NoLimit := e0.mod.nolimit.keeps fun b o e => (e0.bs b o e).1
  have hkind : ∀ y ∈ ps.zip us, scope.names.lookup y.1 = some .local ∨ (scope.names.lookup y.1 = some .cell ∧ ((cellsFrom (s.heap.objs.size + 1) scope.names []).lookup y.1).isSome = true) := fun ⟨n, v⟩ hy => by
    rcases S.par n (List.of_mem_zip hy).1 with q | q
    · exact .inl q
    · exact .inr ⟨q, PySem.W.cellsFrom_some _ _ _ (.inl q)⟩
  refine codeAny_call_function hr.depth (KX _ _ lk) rfl S.co S.gen rfl (PySem.W.codeRec_of KX hcd) (hb _ _ _ _ ?_)
  refine wpAny_newFunctionEnv_cells S.kind hkind fun env he s1 x => ?_
  subst he
  refine ⟨lim.keeps x.toInCall.keep, codeAny_func ?_⟩
  obtain ⟨t, ht, hq⟩ := hbody A outer s H vs Q E (hr.deeper _) hgd hsp
  have I : Inv (cxOf (L2.CX P w) P w K mg base N qual scope f cdv A outer s H E) [] (start N vs) H s1 := inv_start S hr.hd e0 hl r x
  refine wpAny_mono (ht.run [] s1 (start N vs) H _ I hq) (fun fl s' hs => ?_) fun e s' hs => hs
  have fin : ∀ {σ' : L2.St} {H' : Hp} {v : V} {u : Value}, Inv (cxOf (L2.CX P w) P w K mg base N qual scope f cdv A outer s H E) [] σ' H' s' → RelV v u → Q v H' → CE outer P w H s Q u s' :=
    fun {σ' H' v u} J rv q => ⟨v, H', J.os, J.bare, J.base, J.hok, rv, q⟩
  cases fl with
  | ret u =>
    obtain ⟨v, σ', H', J, rv, q⟩ := hs
    exact fin J rv q
  | next =>
    obtain ⟨σ', H', J, q⟩ := hs
    exact fin (v := V.non) (u := Value.none) J rfl q
  | brk =>
    obtain ⟨_, _, _, q⟩ := hs
    exact False.elim q
  | cont =>
    obtain ⟨_, _, _, q⟩ := hs
    exact False.elim q
/-- from a promise in this form to the library's, where no repr is under way: law_call's own use -/
theorem law_callG {P : Program} {w : World} {K : PySem.W.Frag} {mg mb : Str → Option Value} {k : Nat} {fa a : Addr} {fd : FuncData} {x : Str} {sp : Sp} {s₁ : Shared} {vs : List Value} {ns : List Int}
    (KX : K.In s₁.heap) (hns : s₁.heap.Ns mainGlobals mg) (hb : s₁.heap.Ns builtinsNs mb) (hbb : ∀ x : Str, x ≠ "__name__" → mb x = bootBuiltins x) (hlim : s₁.heap.NoLimit) (hg : s₁.gens = #[])
    (ha : s₁.heap.get? a = some { cls := .type "list", data := .seq vs.toArray }) (hi : IntsAre vs ns) (hl : ns.length ≤ sizeLine) (hr : Room k callerA)
    (F : ∀ base : Heap, K.In base → base.Ns mainGlobals mg → FnG P w K mg base k fa fd [x] sp) (hbind : ∀ (s : Shared) (u : Value), BindsTo s fd ⟨[u], []⟩ [(x, u)])
    (hsp : ∀ H : Hp, Only H → SqL K H a (ns.map V.int) → sp [.ref a] H (fun v _ => v = .bl true) fun _ _ _ => False) :
    codeAny (model P w) callerA (.call (.ref fa) ⟨[.ref a], []⟩) (fun r s' => r = .ok (.ret (.bool true)) ∧ OldK s₁.heap s'.heap ∧ s'.os = s₁.os ∧ AllBare s'.gens) s₁ := by
  have rv := vals_ints hi
  have lenV := hi.length
  have run : ∀ H : Hp, Only H → SqL K H a (ns.map V.int) → HOk P w H s₁.heap → (∀ b, H b ≠ none → b = a) → (H a ≠ none → K.lookup a = none) →
      codeAny (model P w) callerA (.call (.ref fa) ⟨[.ref a], []⟩) (fun r s' => r = .ok (.ret (.bool true)) ∧ OldK s₁.heap s'.heap ∧ s'.os = s₁.os ∧ AllBare s'.gens) s₁ := by
    intro H hO hS hok hA hK
    have isA : ∀ {b : Addr} {u : HO}, H b = some u → b = a := fun {b u} q => hA b (by rw [q]; simp)
    have noA : ∀ {b : Addr} {o : Obj} {es : Array DictEntry} {ep : Nat}, s₁.heap.get? b = some o → o.data = .dict es ep → H b = none := fun {b o es ep} e d => by
      cases q : H b with
      | none => rfl
      | some u =>
        have e' := isA q
        subst e'
        rw [ha] at e
        cases e
        cases (show Data.seq vs.toArray _ = Data.dict es ep from d)
    have nsK : ∀ {b : Addr} {m : Str → Option Value}, s₁.heap.Ns b m → (hidT s₁.heap H).Ns b m := fun {b m} ⟨o, es, ep, e, d, r⟩ => ⟨o, es, ep, hidT_get e (noA e d), d, r⟩
    have hKb : K.In (hidT s₁.heap H) := fun b o e => hidT_get (KX b o e) (by
      cases q : H b with
      | none => rfl
      | some u =>
        have e' := isA q
        subst e'
        rw [hK (by rw [q]; simp)] at e
        cases e)
    have hM : Mod K mg (hidT s₁.heap H) := ⟨hKb, nsK hns, ⟨mb, nsK hb, hbb⟩, let ⟨mc, h1, h2⟩ := hlim; ⟨mc, nsK h1, h2⟩⟩
    have e0 : Env0 P w K mg (hidT s₁.heap H) callerA [] s₁ H := ⟨rfl, hM, fun b o e => of_hidT e, Nat.le_of_eq (hidT_size _ _), trivial, fun b hb => absurd (show b ∈ ([] : List Addr) from hb) (by simp), hok, .of_eq hg⟩
    refine codeAny_mono ((F _ hKb (nsK hns)).run callerA [] s₁ H ⟨[.ref a], []⟩ [.ref a] [.ref a] _ _ hr rfl e0 (hbind s₁ (.ref a)) (.cons rfl .nil) (hsp H hO hS)) fun r s' h => ?_
    cases r with
    | error e =>
      obtain ⟨_, _, _, _, _, _, _, _, _, _, _, _, z⟩ := h
      exact z.elim
    | ok fl =>
      cases fl with
      | next => exact False.elim h
      | brk => exact False.elim h
      | cont => exact False.elim h
      | ret u =>
        obtain ⟨v, H', os, bare, un, hok', r', q⟩ := h
        have q1 : v = .bl true := q
        subst q1
        obtain rfl : u = Value.bool true := r'
        refine ⟨rfl, OldK.of_keep fun b o e => ?_, os, bare⟩
        rcases hO b with z | ⟨ob, xs, z⟩
        · exact un.keep b o e z (by intro z; exact absurd (show b ∈ ([] : List Addr) from z) (by simp)) (by simp)
        · obtain ⟨e1, _⟩ := hok b _ z
          obtain ⟨e2, _⟩ := hok' b _ (un.frzs b ob _ z)
          rw [e] at e1
          cases e1
          exact e2
  cases hk : K.lookup a with
  | some o =>
    have e := KX a o hk
    rw [ha] at e
    cases e
    exact run (fun _ => none) (fun _ => .inl rfl) (.inr ⟨_, vs.toArray, _, hk, rfl, rfl, rfl, by rw [List.size_toArray, lenV]; exact hl, by simpa using rv⟩) (fun b u z => by cases (show (none : Option HO) = some u from z)) (fun b z => absurd rfl z) fun z => absurd rfl z
  | none =>
    refine run (fun b => if b = a then some (.frz { cls := .type "list", data := .seq vs.toArray } (.lst (ns.map V.int))) else none) (fun b => ?_) (.inl (.inr ⟨{ cls := .type "list", data := .seq vs.toArray }, if_pos rfl⟩)) (fun b u z => ?_) (fun b z => ?_) fun _ => hk
    · by_cases hb : b = a
      · exact .inr ⟨_, _, if_pos hb⟩
      · exact .inl (if_neg hb)
    · by_cases hb : b = a
      · have z' := (if_pos hb).symm.trans z
        cases z'
        subst hb
        exact ⟨ha, by rw [List.length_map]; exact hl, vs, _, rv, ha⟩
      · cases (if_neg hb).symm.trans z
    · by_cases hb : b = a
      · exact hb
      · exact absurd (if_neg hb) z
end G

namespace G
open PySem PySem.Spec PyProof.Rows L2
open Classical
noncomputable section
section
variable {K : PySem.W.Frag} {cA : Nat → Addr} {c : Cf} {H : Hp} {s : Sto}
theorem repVs_get {xs : List D} {vs : List V} (h : RepVs K c xs vs) : ∀ {i : Nat} {d : D}, xs[i]? = some d → ∃ v, vs[i]? = some v ∧ RepV K c d v := by
  induction h with
  | nil => intro i d e; simp at e
  | cons a t ih =>
    intro i d e
    cases i with
    | zero => simp at e; subst e; exact ⟨_, rfl, a⟩
    | succ i => simpa using ih (by simpa using e)
theorem atI_rep {xs : List D} {vs : List V} {i : Int} {d : D} (h : RepVs K c xs vs) (e : atI xs i = some d) : ∃ v, atI vs i = some v ∧ RepV K c d v := by
  unfold atI at e ⊢
  rw [← Paired.length h]
  cases q : ixN xs.length i with
  | none => rw [q] at e; cases e
  | some j =>
    rw [q] at e
    exact repVs_get h e
theorem repVs_drop {xs : List D} {vs : List V} (h : RepVs K c xs vs) : ∀ n : Nat, RepVs K c (xs.drop n) (vs.drop n) := by
  induction h with
  | nil => intro n; cases n <;> exact .nil
  | cons a t ih =>
    intro n
    cases n with
    | zero => exact .cons a t
    | succ n => exact ih n
theorem repVs_take {xs : List D} {vs : List V} (h : RepVs K c xs vs) : ∀ n : Nat, RepVs K c (xs.take n) (vs.take n) := by
  induction h with
  | nil => intro n; cases n <;> exact .nil
  | cons a t ih =>
    intro n
    cases n with
    | zero => exact .nil
    | succ n => exact .cons a (ih n)
theorem repVs_set {xs : List D} {vs : List V} {d : D} {v : V} (h : RepVs K c xs vs) (r : RepV K c d v) : ∀ n : Nat, RepVs K c (xs.set n d) (vs.set n v) := by
  induction h with
  | nil => intro n; cases n <;> exact .nil
  | cons a t ih =>
    intro n
    cases n with
    | zero => exact .cons r t
    | succ n => exact .cons a (ih n)
theorem repVs_rev {xs : List D} {vs : List V} (h : RepVs K c xs vs) : RepVs K c xs.reverse vs.reverse := by
  induction h with
  | nil => exact .nil
  | cons a t ih =>
    rw [List.reverse_cons, List.reverse_cons]
    exact repVs_append ih (.cons a .nil)
theorem cut_rep {xs : List D} {vs : List V} (h : RepVs K c xs vs) (lo hi : Option Int) : RepVs K c (cutD xs lo hi) (cutV vs lo hi) := by
  unfold cutD cutV
  rw [← Paired.length h]
  exact repVs_take (repVs_drop h _) _
theorem ints_v {xs : List D} {vs : List V} {ns : List Int} (h : RepVs K c xs vs) (e : intsO xs = some ns) : vs = ns.map V.int := by
  have q := mapO_some e
  clear e
  induction q generalizing vs with
  | nil => cases h; rfl
  | cons a t ih =>
    cases h with
    | cons h1 h2 =>
      rw [dInt_v a h1, ih h2]
      rfl
theorem bools_v {xs : List D} {vs : List V} {ns : List Bool} (h : RepVs K c xs vs) (e : boolsO xs = some ns) : vs = ns.map V.bl := by
  have q := mapO_some e
  clear e
  induction q generalizing vs with
  | nil => cases h; rfl
  | cons a t ih =>
    cases h with
    | cons h1 h2 =>
      rw [dBool_v a h1, ih h2]
      rfl
theorem leastI_mem : ∀ (l : List Int) (a : Int), leastI a l ∈ a :: l ∧ ∀ y ∈ a :: l, leastI a l ≤ y
  | [], a => ⟨by simp [leastI], by simp [leastI]⟩
  | b :: l, a => by
    obtain ⟨h1, h2⟩ := leastI_mem l (if b < a then b else a)
    simp only [leastI]
    refine ⟨?_, fun y hy => ?_⟩
    · rcases List.mem_cons.mp h1 with e | e
      · rw [e]
        by_cases q : b < a <;> simp [q]
      · exact List.mem_cons_of_mem _ (List.mem_cons_of_mem _ e)
    · have h3 := h2 _ List.mem_cons_self
      rcases List.mem_cons.mp hy with e | e
      · subst e
        by_cases q : b < y
        · rw [if_pos q] at h3 ⊢; omega
        · rw [if_neg q] at h3 ⊢; exact h3
      · rcases List.mem_cons.mp e with e | e
        · subst e
          by_cases q : y < a
          · rw [if_pos q] at h3 ⊢; exact h3
          · rw [if_neg q] at h3 ⊢; omega
        · exact h2 y (List.mem_cons_of_mem _ e)
theorem mostI_mem : ∀ (l : List Int) (a : Int), mostI a l ∈ a :: l ∧ ∀ y ∈ a :: l, y ≤ mostI a l
  | [], a => ⟨by simp [mostI], by simp [mostI]⟩
  | b :: l, a => by
    obtain ⟨h1, h2⟩ := mostI_mem l (if a < b then b else a)
    simp only [mostI]
    refine ⟨?_, fun y hy => ?_⟩
    · rcases List.mem_cons.mp h1 with e | e
      · rw [e]
        by_cases q : a < b <;> simp [q]
      · exact List.mem_cons_of_mem _ (List.mem_cons_of_mem _ e)
    · have h3 := h2 _ List.mem_cons_self
      rcases List.mem_cons.mp hy with e | e
      · subst e
        by_cases q : y < b
        · rw [if_pos q] at h3 ⊢; omega
        · rw [if_neg q] at h3 ⊢; exact h3
      · rcases List.mem_cons.mp e with e | e
        · subst e
          by_cases q : a < y
          · rw [if_pos q] at h3 ⊢; exact h3
          · rw [if_neg q] at h3 ⊢; omega
        · exact h2 y (List.mem_cons_of_mem _ e)
theorem asSq_v (r : Rep K cA c H s) {d : D} {v : V} {xs : List D} (hd : asSq s d = some xs) (hv : RepV K c d v) : ∃ a vs, v = .ref a ∧ (H a = some (.lst vs) ∨ SqT K H a vs) ∧ RepVs K c xs vs := by
  unfold asSq at hd
  cases e : G.asL s d with
  | some ys =>
    rw [e] at hd
    cases hd
    obtain ⟨a, vs, h1, h2, h3⟩ := r.asL e hv
    exact ⟨a, vs, h1, .inl h2, h3⟩
  | none =>
    rw [e] at hd
    obtain ⟨a, vs, h1, h2, h3⟩ := r.asT hd hv
    exact ⟨a, vs, h1, .inr h2, h3⟩
end
section
variable {X : Cx} {cA : Nat → Addr}
theorem ob_ix : IxR X (rB X.K cA ixop) := by
  refine IxR.imp (IxR.or ix_list ix_tup) ?_
  rintro x y H Q ⟨c, d1, d2, s, W, r, h1, h2, h⟩
  unfold ixop at h
  cases e2 : dInt d2 with
  | none => rw [e2] at h; exact h.elim
  | some i =>
    cases e1 : asSq s d1 with
    | none => rw [e1, e2] at h; exact h.elim
    | some xs =>
      rw [e1, e2] at h
      dsimp only at h
      obtain ⟨a, vs, rfl, ha, hv⟩ := asSq_v r e1 h1
      cases e3 : atI xs i with
      | none => rw [e3] at h; exact h.elim
      | some d =>
        rw [e3] at h
        obtain ⟨v, g1, g2⟩ := atI_rep hv e3
        rcases ha with ha | ha
        · exact .inl ⟨a, vs, i, v, rfl, dInt_v e2 h2, SqL.of ha, g1, h.ok r _ g2⟩
        · exact .inr ⟨a, vs, i, v, rfl, dInt_v e2 h2, ha, g1, h.ok r _ g2⟩
def rSlop (K : PySem.W.Frag) (cA : Nat → Addr) (fl : Bool) : V → Option Int → Option Int → Hp → VK → Prop := fun x lo hi H Q => ∃ c d s W, Rep K cA c H s ∧ RepV K c d x ∧ Post K cA c H (slop fl d lo hi s) (okQ K Q) W
theorem SlR.imp {r r' : V → Option Int → Option Int → Hp → VK → Prop} (h : SlR X r) (k : ∀ x lo hi H Q, r' x lo hi H Q → r x lo hi H Q) : SlR X r' := fun pins s σ H x v vl vu lo hi sl Q I rx hs pl pu q => h pins s σ H x v vl vu lo hi sl Q I rx hs pl pu (k _ _ _ _ _ q)
theorem slop_ok {K : PySem.W.Frag} {fl : Bool} {c : Cf} {d : D} {s : Sto} {W : Xn → Sto → Cf → Hp → Prop} {lo hi : Option Int} {H : Hp} {x : V} {Q : VK} (r : Rep K cA c H s) (h1 : RepV K c d x) (h : Post K cA c H (slop fl d lo hi s) (okQ K Q) W) :
    ∃ a vs, x = .ref a ∧ SqL K H a vs ∧ ∀ p, H p = none → Q (.ref p) (upd H p (.lst (cutV vs lo hi))) := by
  unfold slop at h
  split at h
  · rename_i l
    obtain ⟨a, vs, rfl, g1, g2⟩ := h1
    exact ⟨a, vs, rfl, r.sub.seq g1, (mkL_new r (cut_rep (repVs_of g2) lo hi) h).2⟩
  · cases e : asL s d with
    | none => rw [e] at h; exact h.elim
    | some xs =>
      rw [e] at h
      obtain ⟨a, vs, rfl, ha, hv⟩ := r.asL e h1
      exact ⟨a, vs, rfl, SqL.of ha, (mkL_new r (cut_rep hv lo hi) h).2⟩
theorem ob_sl (fl : Bool) : SlR X (rSlop X.K cA fl) := by
  refine SlR.imp sl_list ?_
  rintro x lo hi H Q ⟨c, d, s, W, r, h1, h⟩
  exact slop_ok r h1 h
theorem revop_ok {K : PySem.W.Frag} {fl : Bool} {c : Cf} {d : D} {s : Sto} {W : Xn → Sto → Cf → Hp → Prop} {H : Hp} {x : V} {Q : VK} (r : Rep K cA c H s) (h1 : RepV K c d x) (h : Post K cA c H (revop fl d s) (okQ K Q) W) :
    ∃ a vs, x = .ref a ∧ SqL K H a vs ∧ ∀ p, H p = none → Q (.ref p) (upd H p (.lst vs.reverse)) := by
  unfold revop at h
  cases e : asL s d with
  | none => rw [e] at h; exact h.elim
  | some xs =>
    rw [e] at h
    obtain ⟨a, vs, rfl, ha, hv⟩ := r.asL e h1
    exact ⟨a, vs, rfl, SqL.of ha, (mkL_new r (repVs_rev hv) h).2⟩
/-! ### isinstance of a built-in class -/
theorem tyx_of {K : PySem.W.Frag} {c : Cf} {d : D} {s : Sto} {H : Hp} {x : V} {t : Ty} {b : Bool} (r : Rep K cA c H s) (h1 : RepV K c d x) (ht : ∀ k, t ≠ .own k) (h : isiB s d t = some b) :
    ∃ u : String, TyX K H x (.type u) ∧ kitB u (tyName t) = some b := by
  have lstT : ∀ a vs, H a = some (.lst vs) → TyX K H (.ref a) (.type "list") := fun a vs e => .base (.lst e)
  have tupT : ∀ a vs, SqT K H a vs → TyX K H (.ref a) (.type "tuple") := fun a vs e => by
    rcases e with (e | ⟨o, e⟩) | ⟨o, its, n, e, q, _⟩
    · exact .base (.tup e)
    · exact .fTuple e
    · exact .kTuple e q
  unfold isiB at h
  split at h
  · cases h
    cases h1
    refine ⟨"NoneType", .base .non, ?_⟩
    cases t with
    | own k => exact (ht k rfl).elim
    | _ => decide +kernel
  · cases d with
    | p q =>
      cases h1 with
      | non => cases h
      | bl b =>
        refine ⟨"bool", .base (.bl _), ?_⟩
        cases t with
        | own k => exact (ht k rfl).elim
        | _ => cases h <;> decide +kernel
      | int b =>
        refine ⟨"int", .base (.int _), ?_⟩
        cases t with
        | own k => exact (ht k rfl).elim
        | _ => cases h <;> decide +kernel
      | str b =>
        refine ⟨"str", .base (.str _), ?_⟩
        cases t with
        | own k => exact (ht k rfl).elim
        | _ => cases h <;> decide +kernel
      | lst g1 g2 =>
        refine ⟨"list", lstT _ _ (r.sub _ _ g1), ?_⟩
        cases t with
        | own k => exact (ht k rfl).elim
        | _ => cases h <;> decide +kernel
      | tup g1 g2 =>
        refine ⟨"tuple", tupT _ _ (seqT_mono r.sub g1), ?_⟩
        cases t with
        | own k => exact (ht k rfl).elim
        | _ => cases h <;> decide +kernel
    | o n =>
      cases e : cel s n with
      | none =>
        simp only [tyOf, e] at h
        cases h
      | some z =>
        obtain ⟨a, u, rfl, e2, e3, e4, e5, e6⟩ := r.at e h1
        cases z with
        | lst xs =>
          obtain ⟨vs, rfl, _⟩ := e6
          refine ⟨"list", lstT _ _ e4, ?_⟩
          simp only [tyOf, e] at h
          cases t with
          | own k => exact (ht k rfl).elim
          | _ => cases h <;> decide +kernel
        | tup xs =>
          obtain ⟨vs, rfl, _⟩ := e6
          refine ⟨"tuple", tupT _ _ (SqT.of e4), ?_⟩
          simp only [tyOf, e] at h
          cases t with
          | own k => exact (ht k rfl).elim
          | _ => cases h <;> decide +kernel
        | dct xs =>
          obtain ⟨vs, rfl, _⟩ := e6
          refine ⟨"dict", .base (.dK e4), ?_⟩
          simp only [tyOf, e] at h
          cases t with
          | own k => exact (ht k rfl).elim
          | _ => cases h <;> decide +kernel
        | ins k fs => simp only [tyOf, e] at h; cases h
        | exn k fs => simp only [tyOf, e] at h; cases h
    | s l => simp only [tyOf] at h; cases h
end
end
end G

namespace G
open PySem PySem.Spec PyProof.Rows L2
open Classical
noncomputable section
section
variable {X : Cx} {cA : Nat → Addr}
/-! ### calls of built-ins with one argument -/
/-- the built-in function (a class: false) -/
def biF : Bi → Value
  | .len => .builtin "len"
  | .list => .type "list"
  | .tuple => .type "tuple"
  | .abs => .builtin "abs"
  | .min => .builtin "min"
  | .max => .builtin "max"
  | .int => .type "int"
  | .repr => .builtin "repr"
  | .all => .builtin "all"
  | .any => .builtin "any"
  | .sum => .builtin "sum"
  | .sorted => .builtin "sorted"
  | .dict => .type "dict"
  | .str => .type "str"
theorem ob_repr (hg : X.A.guards = some []) (hu : X.A.units + 65 < cLine) (fl : Bool) : CallR X (biF .repr) (rU1 X.K cA (biop .repr fl)) := by
  rintro pins s σ H xs us Q I rv ⟨x, c, d, st, W, rfl, r, h1, h⟩
  unfold biop at h
  cases e : res 8 st d with
  | none => rw [e] at h; exact h.elim
  | some q =>
    rw [e] at h
    dsimp only at h
    obtain ⟨⟨k2, k3, k4, k5⟩, h⟩ := h.if_
    obtain ⟨u, rfl, ru⟩ := vals1 rv
    have hq := h.ok r _ (Dq.str _)
    have dp := r.res 8 e h1
    cases k1 : PyProof.Rows.isDisplay q with
    | true =>
      obtain ⟨as, rd⟩ := Dp.reads I q x u dp ru
      obtain ⟨a, rfl⟩ := isRef_of_reads rd k1
      exact repr_of_reads' rd k2 (PyData.noDict_hsm k3) hg (by omega) (fun _ _ z => z) (fun h' t tk hk => ⟨.str q.shown, H, I.kept hk, ⟨t, rfl⟩, hq⟩) k5
    | false =>
      cases q with
      | none =>
        cases dp
        cases ru
        exact PySem.P.repr_of_none ⟨.str _, H, I.tok _, ⟨_, rfl⟩, hq⟩
      | bool b =>
        cases dp
        cases ru
        exact PySem.P.repr_of_bool ⟨.str _, H, I.tok _, ⟨_, rfl⟩, by cases b <;> exact hq⟩
      | int i =>
        cases dp
        obtain ⟨t, rfl⟩ := ru
        exact PySem.P.repr_of_int (of_decide_eq_true k2) ⟨.str _, H, I.tok _, ⟨_, rfl⟩, hq⟩
      | str z =>
        cases dp
        obtain ⟨t, rfl⟩ := ru
        exact PySem.P.repr_of_str ⟨.str _, H, I.tok _, ⟨_, rfl⟩, hq⟩ k5
      | list l => cases k1
      | tuple l => cases k1
      | dict l => cases k3
theorem ob_len (hc : X.calm = true) (fl : Bool) : CallR X (biF .len) (rU1 X.K cA (biop .len fl)) := by
  refine CallR.imp (CallR.or call_len_seq call_len_str) ?_
  rintro _ H Q ⟨x, c, d, s, W, rfl, r, h1, h⟩
  unfold biop at h
  cases e : asSq s d with
  | some xs =>
    rw [e] at h
    obtain ⟨a, vs, rfl, ha, hv⟩ := asSq_v r e h1
    refine .inl ⟨a, vs, rfl, ?_, ?_⟩
    · rcases ha with ha | ha
      · exact .inl (SqL.of ha)
      · exact .inr ha
    · rw [← Paired.length hv]
      exact h.ok r _ ok_int
  | none =>
    rw [e] at h
    dsimp only at h
    cases e2 : dStr d with
    | none => rw [e2] at h; exact h.elim
    | some z =>
      rw [e2] at h
      obtain ⟨l, h⟩ := h.if_
      exact .inr ⟨z, by rw [dStr_v e2 h1], lim_le l, h.ok r _ ok_int⟩
theorem ob_list (hc : X.calm = true) (fl : Bool) : CallR X (biF .list) (rU1 X.K cA (biop .list fl)) := by
  refine CallR.imp call_list_of ?_
  rintro _ H Q ⟨x, c, d, s, W, rfl, r, h1, h⟩
  unfold biop at h
  cases e : asSq s d with
  | none => rw [e] at h; exact h.elim
  | some xs =>
    rw [e] at h
    obtain ⟨a, vs, rfl, ha, hv⟩ := asSq_v r e h1
    refine ⟨a, vs, rfl, ?_, (mkL_new r hv h).2⟩
    rcases ha with ha | ha
    · exact .inl (SqL.of ha)
    · exact .inr ha
theorem ob_tuple (hc : X.calm = true) (fl : Bool) : CallR X (biF .tuple) (rU1 X.K cA (biop .tuple fl)) := by
  refine CallR.imp call_tuple_of ?_
  rintro _ H Q ⟨x, c, d, s, W, rfl, r, h1, h⟩
  unfold biop at h
  dsimp only at h
  cases e : asL s d with
  | some xs =>
    rw [e] at h
    obtain ⟨a, vs, rfl, ha, hv⟩ := r.asL e h1
    exact ⟨a, vs, rfl, .inl ⟨SqL.of ha, (mkT_new r hv h).2⟩⟩
  | none =>
    rw [e] at h
    dsimp only at h
    cases e2 : asT s d with
    | none => rw [e2] at h; exact h.elim
    | some xs =>
      rw [e2] at h
      obtain ⟨a, vs, rfl, ha, hv⟩ := r.asT e2 h1
      exact ⟨a, vs, rfl, .inr ⟨ha, h.ok r _ h1⟩⟩
theorem ob_abs (hc : X.calm = true) (fl : Bool) : CallR X (biF .abs) (rU1 X.K cA (biop .abs fl)) := by
  refine CallR.imp call_abs ?_
  rintro _ H Q ⟨x, c, d, s, W, rfl, r, h1, h⟩
  unfold biop at h
  cases e : dInt d with
  | none => rw [e] at h; exact h.elim
  | some i =>
    rw [e] at h
    exact ⟨i, by rw [dInt_v e h1], h.ok r _ ok_int⟩
theorem ob_min (hc : X.calm = true) (fl : Bool) : CallR X (biF .min) (rU1 X.K cA (biop .min fl)) := by
  refine CallR.imp (CallR.or (cr_min hc) (cr_minT hc)) ?_
  rintro _ H Q ⟨x, c, d, s, W, rfl, r, h1, h⟩
  unfold biop at h
  dsimp only at h
  split at h
  · rename_i i l e
    cases e1 : asSq s d with
    | none => rw [e1] at e; cases e
    | some xs =>
      rw [e1] at e
      obtain ⟨a, vs, rfl, ha, hv⟩ := asSq_v r e1 h1
      have ev := ints_v hv e
      subst ev
      obtain ⟨g1, g2⟩ := leastI_mem l i
      have fin : ∀ m, m ∈ i :: l → (∀ y, y ∈ i :: l → m ≤ y) → Q (.int m) H := fun m q1 q2 => by
        have : m = leastI i l := by
          have := g2 m q1
          have := q2 _ g1
          omega
        subst this
        exact h.ok r _ ok_int
      rcases ha with ha | ha
      · exact .inl ⟨a, i :: l, rfl, SqL.of ha, by simp, fin⟩
      · exact .inr ⟨a, i :: l, rfl, ha, by simp, fin⟩
  · exact h.elim
theorem ob_max (hc : X.calm = true) (fl : Bool) : CallR X (biF .max) (rU1 X.K cA (biop .max fl)) := by
  refine CallR.imp (CallR.or (cr_max hc) (cr_maxT hc)) ?_
  rintro _ H Q ⟨x, c, d, s, W, rfl, r, h1, h⟩
  unfold biop at h
  dsimp only at h
  split at h
  · rename_i i l e
    cases e1 : asSq s d with
    | none => rw [e1] at e; cases e
    | some xs =>
      rw [e1] at e
      obtain ⟨a, vs, rfl, ha, hv⟩ := asSq_v r e1 h1
      have ev := ints_v hv e
      subst ev
      obtain ⟨g1, g2⟩ := mostI_mem l i
      have fin : ∀ m, m ∈ i :: l → (∀ y, y ∈ i :: l → y ≤ m) → Q (.int m) H := fun m q1 q2 => by
        have : m = mostI i l := by
          have := g2 m q1
          have := q2 _ g1
          omega
        subst this
        exact h.ok r _ ok_int
      rcases ha with ha | ha
      · exact .inl ⟨a, i :: l, rfl, SqL.of ha, by simp, fin⟩
      · exact .inr ⟨a, i :: l, rfl, ha, by simp, fin⟩
  · exact h.elim
theorem ob_sum (hc : X.calm = true) (fl : Bool) : CallR X (biF .sum) (rU1 X.K cA (biop .sum fl)) := by
  refine CallR.imp (cr_sum hc) ?_
  rintro _ H Q ⟨x, c, d, s, W, rfl, r, h1, h⟩
  unfold biop at h
  dsimp only at h
  split at h
  · rename_i l e
    cases e1 : asL s d with
    | none => rw [e1] at e; cases e
    | some xs =>
      rw [e1] at e
      obtain ⟨a, vs, rfl, ha, hv⟩ := r.asL e1 h1
      have ev := ints_v hv e
      subst ev
      exact ⟨a, l, rfl, SqL.of ha, h.ok r _ ok_int⟩
  · exact h.elim
theorem ob_int (hc : X.calm = true) (fl : Bool) : CallR X (biF .int) (rU1 X.K cA (biop .int fl)) := by
  refine CallR.imp call_int1 ?_
  rintro _ H Q ⟨x, c, d, s, W, rfl, r, h1, h⟩
  unfold biop at h
  dsimp only at h
  cases e : dInt d with
  | some i =>
    rw [e] at h
    exact .inl ⟨i, by rw [dInt_v e h1], h.ok r _ ok_int⟩
  | none =>
    rw [e] at h
    cases e2 : dBool d with
    | none => rw [e2] at h; exact h.elim
    | some b =>
      rw [e2] at h
      exact .inr ⟨b, by rw [dBool_v e2 h1], h.ok r _ ok_int⟩
theorem ob_all (hc : X.calm = true) (fl : Bool) : CallR X (biF .all) (rU1 X.K cA (biop .all fl)) := by
  refine CallR.imp (cr_all hc) ?_
  rintro _ H Q ⟨x, c, d, s, W, rfl, r, h1, h⟩
  unfold biop at h
  dsimp only at h
  split at h
  · rename_i l e
    cases e1 : asL s d with
    | none => rw [e1] at e; cases e
    | some xs =>
      rw [e1] at e
      obtain ⟨a, vs, rfl, ha, hv⟩ := r.asL e1 h1
      have ev := bools_v hv e
      subst ev
      exact ⟨a, l, rfl, SqL.of ha, h.ok r _ ok_bl⟩
  · exact h.elim
theorem ob_any (hc : X.calm = true) (fl : Bool) : CallR X (biF .any) (rU1 X.K cA (biop .any fl)) := by
  refine CallR.imp (cr_any hc) ?_
  rintro _ H Q ⟨x, c, d, s, W, rfl, r, h1, h⟩
  unfold biop at h
  dsimp only at h
  split at h
  · rename_i l e
    cases e1 : asL s d with
    | none => rw [e1] at e; cases e
    | some xs =>
      rw [e1] at e
      obtain ⟨a, vs, rfl, ha, hv⟩ := r.asL e1 h1
      have ev := bools_v hv e
      subst ev
      exact ⟨a, l, rfl, SqL.of ha, h.ok r _ ok_bl⟩
  · exact h.elim
/-! ### append, insert, a[i] = x -/
theorem cell_wr {K : PySem.W.Frag} {c : Cf} {H : Hp} {s : Sto} {n : Nat} {xs : List D} {x : V} (r : Rep K cA c H s) (e : cel s n = some (.lst xs)) (h1 : RepV K c (.o n) x) :
    ∃ a vs, x = .ref a ∧ H a = some (.lst vs) ∧ RepVs K c xs vs ∧ ∀ (ys : List D) (ws : List V), RepVs K c ys ws → Rep K cA c (upd H a (.lst ws)) (s.set n (some (.lst ys))) ∧ Ext c H c (upd H a (.lst ws)) := by
  obtain ⟨a, u, rfl, e2, e3, e4, e5, vs, rfl, e7⟩ := r.at e h1
  exact ⟨a, vs, rfl, e4, e7, fun ys ws q => ⟨r.wr e3 e2 ⟨ws, rfl, q⟩, Ext.wr r e2⟩⟩
def rApp (K : PySem.W.Frag) (cA : Nat → Addr) : V → List V → Hp → VK → Prop := fun x vs H Q => ∃ y c d e s W, vs = [y] ∧ Rep K cA c H s ∧ RepV K c d x ∧ RepV K c e y ∧ Post K cA c H (appop d e s) (okQ K Q) W
theorem ob_app : MtR X "list.append" (rApp X.K cA) := by
  refine MtR.imp (r := rAppend) mt_append ?_
  rintro x _ H Q ⟨y, c, d, e, s, W, rfl, r, h1, h2, h⟩
  unfold appop at h
  split at h
  · rename_i n
    split at h
    · rename_i xs e1
      obtain ⟨l, h⟩ := h.if_
      obtain ⟨a, vs, rfl, g1, g2, g3⟩ := cell_wr r e1 h1
      obtain ⟨g4, g5⟩ := g3 (xs ++ [e]) (vs ++ [y]) (repVs_append g2 (.cons h2 .nil))
      exact ⟨a, vs, y, rfl, rfl, g1, by rw [← Paired.length g2]; exact lim_lt l, h _ _ g5 g4 _ ok_non⟩
    · exact h.elim
  · exact h.elim
def rIns (K : PySem.W.Frag) (cA : Nat → Addr) : V → List V → Hp → VK → Prop := fun x vs H Q => ∃ i y c d f e s W, vs = [i, y] ∧ Rep K cA c H s ∧ RepV K c d x ∧ RepV K c f i ∧ RepV K c e y ∧ Post K cA c H (insop d f e s) (okQ K Q) W
theorem ob_ins : MtR X "list.insert" (rIns X.K cA) := by
  refine MtR.imp mt_insert ?_
  rintro x _ H Q ⟨i, y, c, d, f, e, s, W, rfl, r, h1, h3, h2, h⟩
  unfold insop at h
  split at h
  · rename_i n j ej
    split at h
    · rename_i xs e1
      obtain ⟨⟨l, l0, l1⟩, h⟩ := h.if_
      obtain ⟨a, vs, rfl, g1, g2, g3⟩ := cell_wr r e1 h1
      obtain ⟨g4, g5⟩ := g3 (xs.take j.toNat ++ [e] ++ xs.drop j.toNat) (vs.take j.toNat ++ [y] ++ vs.drop j.toNat) (repVs_append (repVs_append (repVs_take g2 _) (.cons h2 .nil)) (repVs_drop g2 _))
      refine ⟨a, vs, j, y, rfl, by rw [dInt_v ej h3], g1, by rw [← Paired.length g2]; exact lim_lt l, l0, ?_, h _ _ g5 g4 _ ok_non⟩
      have : (LIM : Int) = 1000000 := rfl
      omega
    · exact h.elim
  · exact h.elim
def rSetG (K : PySem.W.Frag) (cA : Nat → Addr) : TSet := fun o i v H Q => ∃ c d f e s W, Rep K cA c H s ∧ RepV K c d o ∧ RepV K c f i ∧ RepV K c e v ∧ Post K cA c H (setop d f e s) (fun _ s' c' H' => Q H') W
theorem PSet.imp {r r' : TSet} (h : PSet X r) (k : ∀ o i v H Q, r' o i v H Q → r o i v H Q) : PSet X r' := fun pins s σ H o i v ov iv u Q I ro ri rv q => h pins s σ H o i v ov iv u Q I ro ri rv (k _ _ _ _ _ q)
theorem ob_set : PSet X (rSetG X.K cA) := by
  refine PSet.imp set_list ?_
  rintro o i v H Q ⟨c, d, f, e, s, W, r, h1, h2, h3, h⟩
  unfold setop at h
  split at h
  · rename_i n j ej
    split at h
    · rename_i xs e1
      obtain ⟨a, vs, rfl, g1, g2, g3⟩ := cell_wr r e1 h1
      cases e2 : ixN xs.length j with
      | none => rw [e2] at h; exact h.elim
      | some k =>
        rw [e2] at h
        obtain ⟨g4, g5⟩ := g3 (xs.set k e) (vs.set k v) (repVs_set g2 h3 k)
        exact ⟨a, vs, j, k, rfl, dInt_v ej h2, g1, by rw [← Paired.length g2]; exact e2, h _ _ g5 g4⟩
    · exact h.elim
  · exact h.elim
/-! ### fields -/
theorem lookup_repK {K : PySem.W.Frag} {c : Cf} : ∀ {fs : List (Str × D)} {ws : List (Str × V)}, RepK K c fs ws → ∀ (f : Str), (∀ d, fs.lookup f = some d → ∃ v, ws.lookup f = some v ∧ RepV K c d v) ∧ (fs.lookup f = none → ws.lookup f = none)
  | _, _, .nil, f => ⟨fun d e => (by cases e), fun _ => rfl⟩
  | (g, x) :: fs, (g', y) :: ws, .cons h t, f => by
    obtain ⟨h1, h2⟩ := h
    have h1 : g = g' := h1
    subst h1
    obtain ⟨i1, i2⟩ := lookup_repK t f
    by_cases q : f = g
    · subst q
      refine ⟨fun d e => ?_, fun e => ?_⟩
      · rw [List.lookup_cons, beq_self_eq_true] at e
        cases e
        exact ⟨y, by rw [List.lookup_cons, beq_self_eq_true], h2⟩
      · rw [List.lookup_cons, beq_self_eq_true] at e
        cases e
    · have qb : (f == g) = false := beq_eq_false_iff_ne.mpr q
      refine ⟨fun d e => ?_, fun e => ?_⟩
      · rw [List.lookup_cons, qb] at e
        obtain ⟨v, g1, g2⟩ := i1 d e
        exact ⟨v, by rw [List.lookup_cons, qb]; exact g1, g2⟩
      · rw [List.lookup_cons, qb] at e
        rw [List.lookup_cons, qb]
        exact i2 e
theorem put_repK {K : PySem.W.Frag} {c : Cf} {f : Str} {d : D} {v : V} (h : RepV K c d v) : ∀ {fs : List (Str × D)} {ws : List (Str × V)}, RepK K c fs ws → RepK K c (putD f d fs) (putF f v ws)
  | _, _, .nil => .cons ⟨rfl, h⟩ .nil
  | (g, x) :: fs, (g', y) :: ws, .cons h1 t => by
    obtain ⟨h1, h2⟩ := h1
    have h1 : g = g' := h1
    subst h1
    unfold putD putF
    by_cases q : g = f
    · rw [if_pos q, if_pos q]
      exact .cons ⟨q.symm, h⟩ t
    · rw [if_neg q, if_neg q]
      exact .cons ⟨rfl, h2⟩ (put_repK h t)
end
end
end G

namespace G
open PySem PySem.Spec PyProof.Rows L2
open Classical
noncomputable section
/-! ### exceptions of own classes, kept behind their except clause -/
/-- what is asked of each such class -/
structure ExA (K : PySem.W.Frag) (C : Addr) : Prop where
  ic : (PySem.W.clsIn K C).isSome = true
  xf : XfC K C
  cl : PySem.W.findIn K (.ref C) "__class__" = some (some (.builtin "object.__class__"))
  gt : PySem.W.specialIn K (.builtin "object.__class__") "__get__" = some (some (.builtin "getset_descriptor.__get__"))
  tk : PySem.W.takesIn K (.builtin "object.__class__") = some true
  ob : PySem.W.mroIn K C (.type "object") = some true
  ty : PySem.W.typeIn K (.ref C) = some (.type "type")
  kp : PySem.W.keepIn K (.ref C) = true
  nw : PySem.W.findIn K (.ref C) "wrong" = some none
def exaB (K : PySem.W.Frag) (C : Addr) : Bool := (PySem.W.clsIn K C).isSome && (xfB K C && (decide (PySem.W.findIn K (.ref C) "__class__" = some (some (.builtin "object.__class__"))) && (decide (PySem.W.specialIn K (.builtin "object.__class__") "__get__" = some (some (.builtin "getset_descriptor.__get__"))) &&
  (decide (PySem.W.takesIn K (.builtin "object.__class__") = some true) && (decide (PySem.W.mroIn K C (.type "object") = some true) && (decide (PySem.W.typeIn K (.ref C) = some (.type "type")) && (PySem.W.keepIn K (.ref C) && decide (PySem.W.findIn K (.ref C) "wrong" = some none))))))))
theorem exaB_ok {K : PySem.W.Frag} {C : Addr} (h : exaB K C = true) : ExA K C := by
  unfold exaB at h
  simp only [Bool.and_eq_true, decide_eq_true_eq] at h
  obtain ⟨h1, h2, h3, h4, h5, h6, h7, h8, h9⟩ := h
  exact ⟨h1, xfB_ok h2, h3, h4, h5, h6, h7, h8, h9⟩
/-- a class over ValueError whose object stands as the making of its instances asks -/
def oexB (K : PySem.W.Frag) (C : Addr) : Bool := (match K.lookup C with
  | some ⟨c, _, .cls cd, sl⟩ => decide (c = .type "type") && (match cd.mro with
    | .ref C' :: bm => decide (C' = C) && PySem.HandSPX.refsVE bm
    | _ => false) && (cd.hasDict && !cd.hasDel) && (match sl.toList with
    | [_, _, _, _, some (.builtin n), _] => n == "ValueError.__new__"
    | _ => false)
  | _ => false) && (decide (PySem.W.findIn K (.ref C) "__setattr__" = some (some (.builtin "object.__setattr__"))) && (decide (PySem.W.subIn K (.ref C) (.type "BaseException") = some true) && (decide (PySem.W.typeIn K (.ref C) = some (.type "type")) && PySem.W.keepIn K (.ref C))))
theorem oexB_ok {K : PySem.W.Frag} {C : Addr} (h : oexB K C = true) : OexC K C := by
  unfold oexB at h
  simp only [Bool.and_eq_true, decide_eq_true_eq] at h
  obtain ⟨h1, h2, h3, h4, h5⟩ := h
  refine ⟨?_, h2, h3, h4, h5⟩
  cases q : K.lookup C with
  | none => rw [q] at h1; cases h1
  | some o =>
    obtain ⟨c, dd, dt, sl⟩ := o
    rw [q] at h1
    cases dt with
    | cls cd =>
      obtain ⟨nm, bs, mro, ns, qn, hd, sn, sub, ab, col, del⟩ := cd
      simp only [Bool.and_eq_true, decide_eq_true_eq, Bool.not_eq_true'] at h1
      obtain ⟨⟨⟨rfl, k2⟩, k3, k4⟩, k5⟩ := h1
      subst k3 k4
      obtain ⟨sl⟩ := sl
      match mro, k2, sl, k5 with
      | .ref C' :: bm, k2, [a1, a2, a3, a4, some (.builtin n), a6], k5 =>
        obtain ⟨k21, k22⟩ := Bool.and_eq_true_iff.mp (show (decide (C' = C) && PySem.HandSPX.refsVE bm) = true from k2)
        have ec := of_decide_eq_true k21
        subst ec
        have e : n = "ValueError.__new__" := eq_of_beq k5
        subst e
        exact ⟨nm, qn, ns, bs, bm, sn, sub, ab, col, dd, a1, a2, a3, a4, a6, rfl, k22⟩
    | _ => cases h1
section
variable {X : Cx} {pins : List (Addr × Obj)} {σ : L2.St} {H : Hp} {s : Shared} {K : PySem.W.Frag}
theorem exn_ok {P : Program} {w : World} {h : Heap} {a C : Addr} {d : Option Addr} {oe : Obj} {vs : Array Value} (h1 : h.get? a = some oe) (h2 : oe.cls = .ref C) (h3 : oe.dict = d) (h4 : oe.data = .fields vs) : ObjOk P w H h a (exnO a C d) :=
  ⟨⟨oe, vs, h1, h2, h3, h4⟩, ⟨oe, h1⟩, fun _ _ ⟨o, v, e1, e2, e3, e4⟩ k => ⟨o, v, k o e1, e2, e3, e4⟩⟩
/-- a thing outside the ground is tracked -/
theorem Inv.track (I : Inv X pins σ H s) {a : Addr} {u : HO} (n0 : X.s_0.heap.get? a = none) (na : H a = none) (nL : a ≠ X.env.locals) (nC : ∀ x c, X.env.cells.lookup x = some c → c ≠ a) (nP : ∀ p ∈ X.pn ++ pins, p.1 ≠ a) (new : ObjOk X.prog X.w (upd H a u) s.heap a u) : Inv X pins σ (upd H a u) s := by
  have ne0 : ∀ {b : Addr} {o : Obj}, X.s_0.heap.get? b = some o → b ≠ a := fun {b o} q z => by rw [z, n0] at q; cases q
  refine ⟨I.ok, I.os, I.bare, ⟨fun b o e n => I.base.keep b o e n, fun b o e n => I.base.slot b o e n, fun b o e n x => ?_, I.base.there, fun b xs e => ?_, fun b o v e => ?_, fun b ps e => ?_⟩, I.loc, I.cell, ?_, fun x c e => ?_, fun p hp => ?_, fun b o e => ?_, I.len⟩
  · rw [upd_ne (ne0 e)]
    exact I.base.free b o e n x
  · have q := I.base.tups b xs e
    rw [upd_ne (ne_of_none q na)]
    exact q
  · have q := I.base.frzs b o v e
    rw [upd_ne (ne_of_none q na)]
    exact q
  · obtain ⟨more, q⟩ := I.base.tbls b ps e
    exact ⟨more, by rw [upd_ne (ne_of_none q na)]; exact q⟩
  · rw [upd_ne (Ne.symm nL)]
    exact I.free
  · rw [upd_ne (nC x c e)]
    exact I.freeC x c e
  · obtain ⟨p1, p2, p3⟩ := I.pin p hp
    exact ⟨p1, by rw [upd_ne (nP p hp)]; exact p2, p3⟩
  · by_cases z : b = a
    · subst z
      rw [upd_same] at e
      cases e
      exact new
    · rw [upd_ne z] at e
      exact (I.hok b o e).stay (fun _ _ _ q => q) (fun c hc => by rw [upd_ne (ne_of_none hc na)]; exact hc) fun c xs hc => by rw [upd_ne (ne_of_none hc na)]; exact hc
/-- such an exception as an instance -/
theorem exn_inst (I : Inv X pins σ H s) {a C : Addr} {d : Option Addr} (e : H a = some (exnO a C d)) (hd : ∀ b, d = some b → ∃ fs, H b = some (.xd fs)) : ∃ oe od, PySem.W.InstAt s.heap a oe C od ∧ (∀ b, d = some b → ∃ o, od = some o ∧ s.heap.get? b = some o) := by
  obtain ⟨⟨oe, vs, h1, h2, h3, h4⟩, _⟩ := (show ObjOk X.prog X.w H s.heap a (exnO a C d) from I.hok a _ e)
  have nc : PySem.W.notCls oe = true := by unfold PySem.W.notCls; rw [h4] <;> rfl
  cases d with
  | none => exact ⟨oe, none, ⟨h1, h2, nc, by rw [h3]; trivial⟩, fun b z => by cases z⟩
  | some b =>
    obtain ⟨fs, ef⟩ := hd b rfl
    obtain ⟨mA, hns, _⟩ := (show ObjOk X.prog X.w H s.heap b (.xd fs) from I.hok b _ ef)
    obtain ⟨od, ho, _⟩ := lookIn_ns hns
    exact ⟨oe, some od, ⟨h1, h2, nc, by rw [h3]; exact ho⟩, fun b' z => by cases z; exact ⟨od, rfl, ho⟩⟩
def rIsX (K : PySem.W.Frag) : List V → Hp → VK → Prop := fun xs H Q => ∃ (a C : Addr) (d : Option Addr) (c : V) (u : Value) (b : Bool), xs = [.ref a, c] ∧ H a = some (exnO a C d) ∧ (∀ b, d = some b → ∃ fs, H b = some (.xd fs)) ∧ ExA K C ∧ ClsV c u ∧ PySem.W.kitOne K (.ref C) u = some b ∧ Q (.bl b) H
theorem call_isX : CallR X (.builtin "isinstance") (rIsX X.K) := by
  intro pins s σ H xs us Q I r h
  obtain ⟨a, C, d, c, u, b, rfl, e, hd, A, k, ek, q⟩ := h
  obtain ⟨u1, u2, rfl, r1, r2⟩ := vals2 r
  have z := k.eq r2
  subst z
  obtain rfl : u1 = Value.ref a := r1
  obtain ⟨oe, od, J, _⟩ := exn_inst I e hd
  exact PySem.W.kia_one (PySem.W.kitx_exc (od := od) A.ic A.xf.ga A.xf.gg A.xf.exC A.cl A.gt A.tk A.ob) I.kIn J ek (fun z => nomatch z) fun tk => ⟨.bl b, H, I.tok tk, rfl, q⟩
/-- .. its field -/
def tXg (K : PySem.W.Frag) (n : Str) (te : TE) : TE := fun σ H Q => te σ H fun x H1 => ∃ (a C b : Addr) (fs : List (Str × V)) (v : V), x = .ref a ∧ H1 a = some (exnO a C (some b)) ∧ H1 b = some (.xd fs) ∧ XfC K C ∧ PySem.W.findIn K (.ref C) n = some none ∧ fs.lookup n = some v ∧ Q v H1
theorem pe_xg {e : Expr} {te : TE} {pos : Pos} {n : Str} (he : PE X e te) (hb : attributeBase e n X.env (eval e X.env) = eval e X.env) : PE X (.Attribute e n pos) (tXg X.K n te) := by
  refine ⟨fun pins s σ H Q I h => attr_of hb (thn (he.run pins s σ H _ I h) fun u s1 hh => ?_)⟩
  obtain ⟨x, H1, I1, rx, a, C, b, fs, v, rfl, ea, eb, T, hno, l, q⟩ := hh
  obtain rfl : u = Value.ref a := rx
  obtain ⟨oe, od, J, hod⟩ := exn_inst I1 ea fun b' z => by cases z; exact ⟨fs, eb⟩
  obtain ⟨o, rfl, ho⟩ := hod b rfl
  obtain ⟨mA, hns, hr⟩ := (show ObjOk X.prog X.w H1 s1.heap b (.xd fs) from I1.hok b _ eb)
  obtain ⟨o', ho', hl⟩ := lookIn_ns hns
  have eo : o' = o := Option.some.inj (ho'.symm.trans ho)
  subst eo
  obtain ⟨w, hu, ru⟩ := RelO.some_of (v := v) (o := mA n) (by rw [← l]; exact hr n)
  exact HandSPX.exc_get I1.kIn J T.ga T.gg T.exC (PySem.W.findObj_own T.hdC hno rfl (by rw [hl, hu])) (handed_of ru) ⟨v, H1, I1.tok _, ru, q⟩
/-- o.m(..): what the text does -/
theorem eval_meth {o : Expr} {m : Str} {apos pos : Pos} {es : List Expr} {env : PySem.Env} (hb : attributeBase o m env (eval o env) = eval o env) (hl : (apos.endLine == pos.line) = true)
    (hf : methodCallForm (es.length + ([] : List Keyword).length) (backTo pos (starEach es env)) (backToKw pos (keywordEach [] env)) = true) : eval (.Call (.Attribute o m apos) es [] pos) env = (do
      let ov ← eval o env
      standAt apos.atName
      let (f, first) ← holding [ov] (getMethod ov m (do return (← importBound o env).getD true))
      callWith pos f first (backTo pos (starEach es env)) (backToKw pos (keywordEach [] env))) := by
  rw [arm_eval_Call, hb]
  unfold methodCall
  simp only [hf]
  unfold methodCallPos calleeOf
  rw [hl]
  rfl
/-- B.__init__(self, ..), B an own class that has ValueError's -/
theorem pe_binit {B : Addr} {x : Str} {e : Expr} {es : List Expr} {ta : TA} {p1 p2 pos : Pos} {pl : Sem Bool} (hg : Gl X x) (hm : X.mg x = some (.ref B)) (hdb : (x == ("__debug__" : Str)) = false)
    (hs : PySem.W.specialIn X.K (.ref B) "__getattribute__" = some (some (.builtin "type.__getattribute__"))) (hr : PySem.W.readsIn X.K B (.type "type") = true) (hf : PySem.W.findCls X.K (.ref B) (.type "type") "__init__" = some (.val (.builtin "ValueError.__init__")))
    (ha : PA X (e :: es) ta)
    (hc : eval (.Call (.Attribute (.Name x p1) "__init__" p2) (e :: es) [] pos) X.env = (do
      let ov ← eval (.Name x p1) X.env
      standAt p2.atName
      let (f, first) ← holding [ov] (getMethod ov "__init__" pl)
      callWith pos f first (backTo pos (starEach (e :: es) X.env)) (backToKw pos (keywordEach [] X.env))))
    (he : starEach (e :: es) X.env = (false, eval e X.env) :: starEach es X.env) (hpl : (backTo pos (starEach es X.env)).any (·.1) = false) :
    PE X (.Call (.Attribute (.Name x p1) "__init__" p2) (e :: es) [] pos) (tVeI X.K ta) := by
  refine ⟨fun pins s σ H Q I h => PySem.W.methodCall_KW (ld_glob I hg hm ?_ hdb) hc⟩
  refine PySem.W.method_cls I.kIn hs (PySem.W.cls_value I.kIn hr hf (by decide +kernel) ?_)
  show wpAny _ _ (callWith pos (Value.builtin "ValueError.__init__") [] (backTo pos (starEach (e :: es) X.env)) []) _ _ _
  refine PyProof.Rows.callWith_method1 (thn (ha.run pos pins _ σ H _ (I.tok _) h) fun us s1 hh => ?_) he hpl
  obtain ⟨vs, H1, I1, r1, a, C, ws, rfl, hl, T, ea, q⟩ := hh
  cases r1 with
  | @cons _ u0 _ ur ra rw' =>
    obtain rfl : u0 = Value.ref a := ra
    have hlen : ur.length ≤ sizeLine := by
      have := Paired.length rw'
      rw [sizeLine_eq]
      omega
    exact oinit_ok T I1 ea hlen fun s' J => ⟨.non, H1, J, rfl, q⟩
/-! ### try, the exception kept -/
/-- what the clause wishes of what the body raises -/
def wKp (K : PySem.W.Frag) (c : Value) (i : Nat) (ts : TS) (Wout : WX) (D : Ends) : WX := fun cls d σ H => ∃ b, PySem.W.exmOne K cls c = some b ∧
  (b = true → ∀ a, H a = none → ∃ C : Addr, cls = .ref C ∧ ts { nx := fun σ' H' => D.nx (σ'.set i none) H', rt := fun _ _ => False, bk := fun _ _ => False, ct := fun _ _ => False } (σ.set i (some (.ref a))) (upd H a (exnO a C d))) ∧ (b = false → Wout cls d σ H)
theorem Inv.toHot {a : Addr} (I : Inv X pins σ H s) : Inv (X.suite a (X.pn ++ pins)) [] σ H s :=
  ⟨I.ok.suite _ _, I.os, I.bare, I.base, I.loc, I.cell, I.free, I.freeC, fun p hp => I.pin p (by rw [List.append_nil] at hp; exact hp), I.hok, I.len⟩
theorem Inv.ofHot {a : Addr} (I : Inv (X.suite a (X.pn ++ pins)) [] σ H s) (ok : X.Ok) : Inv X pins σ H s :=
  ⟨ok, I.os, I.bare, I.base, I.loc, I.cell, I.free, I.freeC, fun p hp => I.pin p (by rw [List.append_nil]; exact hp), I.hok, I.len⟩
theorem ps_keep {x n : Str} {c : Value} {i : Nat} {body suite : List Stmt} {b₀ : Stmt} {np pos pos' : Pos} {tb : WX → TS} {ts : TS} {Wout : WX} (hs : X.stack = X.env :: X.outer) (hf : X.env.frame = some X.env.locals) (hex : X.ex = []) (hN : X.N.Nodup) (hi : X.N[i]? = some n) (hln : X.env.kindOf n = some .local) (hc : L2.Names X x c) (tk : Takes X Wout)
    (hb : ∀ (W : WX) (pn : List (Addr × Obj)) (xe : Value → Shared → Prop), Takes (X.tr pn xe) W → PassesOwn (model X.prog X.w) X.A X.env xe → PSs (X.tr pn xe) body (tb W))
    (hsu : ∀ (a : Addr) (pn : List (Addr × Obj)), PSs (X.suite a pn) (b₀ :: suite) ts) :
    PS X (.Try body [.ExceptHandler (some (.Name x np)) (some n) (b₀ :: suite) pos'] [] [] pos) (fun D σ H => tb (wKp X.K c i ts Wout D) D σ H) := by
  refine ⟨fun pins s σ H D I h => wpAny_Try_except ?_⟩
  have ok := I.ok
  have run := (hb (wKp X.K c i ts Wout D) (X.pn ++ pins) (fun e s₁ => wpAny (model X.prog X.w) X.A (noteFrame e X.env) (fun _ s₂ => wpAny (model X.prog X.w) X.A (setFlight e none) (fun _ s₃ =>
    wpAny (model X.prog X.w) X.A (handleBy e X.env [.ExceptHandler (some (.Name x np)) (some n) (b₀ :: suite) pos']) (SP X pins D) X.xe s₃) X.xe s₂) X.xe s₁) (fun u s' xx => ?_) PassesOwn.looking).run [] s σ H D (I.toTry _) h
  · refine wpAny_mono run (fun f s1 hsp => ?_) (fun e s1 he => he)
    cases f with
    | next => exact wpAny_execs_nil (let ⟨σ', H', J, q⟩ := hsp; ⟨σ', H', J.ofTry ok, q⟩)
    | brk => exact (let ⟨σ', H', J, q⟩ := hsp; ⟨σ', H', J.ofTry ok, q⟩)
    | cont => exact (let ⟨σ', H', J, q⟩ := hsp; ⟨σ', H', J.ofTry ok, q⟩)
    | ret u => exact (let ⟨v, σ', H', J, r, q⟩ := hsp; ⟨v, σ', H', J.ofTry ok, r, q⟩)
  obtain ⟨a, B, sI, pinsI, σ1, H1, cls, d, rfl, JI, nb, up, sky, na, os, ag, b, eb, hyes, hno⟩ := xx
  have J : Inv X pins σ1 H1 sI := JI.ofTry ok
  have frames : X.A.frames = some (X.env :: X.outer) := by rw [ok.frames, hs]
  have sky' : Sky B (X.env :: X.outer) a (Zc cls d) X.env.locals s'.heap := by rw [← hs]; exact sky
  refine Sky.land (env := X.env) Zc.steady frames hf sky' fun h3 fl3 up3 => ?_
  have J3 : Inv X pins σ1 H1 { s' with heap := h3 } := J.landed nb fl3.1 (up.trans up3) os ag
  obtain ⟨oe3, vs3, he3, hz3, hd3⟩ := fl3.there
  have nfr : a ∉ frs (X.env :: X.outer) := fun hm => by
    obtain ⟨_, o', e', hnf⟩ := fl3.2.2.1.mem hm
    rw [he3] at e'
    cases e'
    exact hnf _ hd3
  have nfs : a ∉ frs X.stack := by rw [hs]; exact nfr
  have nI : sI.heap.get? a = none := by
    cases q : sI.heap.get? a with
    | none => rfl
    | some o =>
      have z := nb a o q nfs
      rw [fl3.2.1] at z
      cases z
  have n0 : X.s_0.heap.get? a = none := by
    cases q : X.s_0.heap.get? a with
    | none => rfl
    | some o =>
      obtain ⟨o', e'⟩ := J.base.there a o q (by rw [hex]; simp)
      rw [nI] at e'
      cases e'
  have nL : a ≠ X.env.locals := fun z => nfr (List.mem_filterMap.mpr ⟨X.env, List.mem_cons_self, by rw [hf, z]⟩)
  have nC : ∀ x c, X.env.cells.lookup x = some c → c ≠ a := fun x c e z => by
    obtain ⟨v, o, w, _⟩ := J.cell x c e
    rw [z, nI] at w
    cases w
  have nP : ∀ p ∈ X.pn ++ pins, p.1 ≠ a := fun p hp z => by
    have w := (J.pin p hp).1
    rw [z, nI] at w
    cases w
  refine wpAny_handleBy_cons (codeAny_handlers_test ?_) (by intro q; cases q)
  have LT : PySem.W.Looks (model X.prog X.w) h3 (typeOf (.ref a)) cls := fun A Q E s k q => wpAny_typeOf_ref (k _ _ he3) (by rw [hz3.1]; exact q)
  have LM := PySem.W.exm_one (M := model X.prog X.w) J3.kIn LT eb
  have nm : ∀ {Q : Value → Shared → Prop} {E : Value → Shared → Prop}, Q c { s' with heap := h3 } → wpAny (model X.prog X.w) (X.A.mark (some (.ref a))) (eval (.Name x np) X.env) Q E { s' with heap := h3 } := fun {Q E} q => by
    have S := Inv.toHot (a := a) J3
    obtain ⟨g1, g2, hm | ⟨hm, hv, hnn⟩⟩ := hc
    · exact ld_glob (X := X.suite a (X.pn ++ pins)) S g1 hm q g2
    · exact ld_blt (X := X.suite a (X.pn ++ pins)) S g1 hm hv q hnn g2
  refine nm (LM.here ?_)
  cases b with
  | false =>
    show wpAny _ X.A (handleBy (.ref a) X.env []) _ _ _
    refine wpAny_handleBy_nil ?_
    obtain ⟨k1, k2, k3, oe, vs, T, oT, ts', he, hz, hd, h1, hr⟩ := id fl3
    unfold PySem.passOn
    refine wpAny_bind (wpAny_field he hd h1 ?_)
    rw [if_neg (show ¬ ((Value.ref T == Value.none) = true) from by simp)]
    have fin : wpAny (model X.prog X.w) X.A (setFlight (.ref a) X.env.frame) (fun _ s4 => wpAny (model X.prog X.w) X.A (throw (.ref a) : Sem Flow) (SP X pins D) X.xe s4) X.xe { s' with heap := h3 } := by
      rw [hf]
      refine HandSPX.setFlight_upZ fl3 fun h4 hh4 up4 => wpAny_throw (tk _ _ ?_)
      exact ⟨a, B, sI, pins, σ1, H1, cls, d, rfl, J, nb, (up.trans up3).trans up4, .inr (.inr (by rw [hs]; exact hh4)), na, os, ag, hno rfl⟩
    first
      | exact wpAny_bind (wpAny_pure (wpAny_bind fin))
      | exact wpAny_bind fin
  | true =>
    refine codeAny_handlers_suite_as (HandSPX.lands_againZ fl3 fun h4 fl4 up4 => ?_)
    have J4 : Inv X pins σ1 H1 { s' with heap := h4 } := J.landed nb fl4.1 ((up.trans up3).trans up4) os ag
    obtain ⟨oe4, vs4, he4, hz4, hd4⟩ := fl4.there
    obtain ⟨C, ec, hq⟩ := hyes rfl a na
    have S4 := Inv.toHot (a := a) (Inv.track J4 n0 na nL nC nP (exn_ok (C := C) (d := d) he4 (by rw [hz4.1, ec]) hz4.2 hd4))
    refine store_ok (X := X.suite a (X.pn ++ pins)) (v := .ref a) S4 hN hi (.inl hln) rfl (fun s5 S5 => ?_) (.inr hln)
    refine wpAny_mono ((hsu a (X.pn ++ pins)).run [] s5 _ _ _ S5 hq) (fun f s6 hsp => ?_) (fun _ _ z => False.elim z)
    cases f with
    | next =>
      obtain ⟨σ6, H6, S6, q6⟩ := hsp
      exact gone_ok (Inv.ofHot S6 ok) hN hi hln fun s7 J7 => ⟨_, _, J7, q6⟩
    | brk => obtain ⟨_, _, _, q⟩ := hsp; exact q.elim
    | cont => obtain ⟨_, _, _, q⟩ := hsp; exact q.elim
    | ret u => obtain ⟨_, _, _, _, _, q⟩ := hsp; exact q.elim
/-! ### def __init__(self, wrong): B.__init__(self, 'm'); self.wrong = wrong -/
def spIni (K : PySem.W.Frag) : Sp := fun vs H Q E => ∃ (a C : Addr) (w : V), vs = [.ref a, w] ∧ OexC K C ∧ PySem.W.findIn K (.ref C) "wrong" = some none ∧ H a = some (exo a C none) ∧ ∀ dx, H dx = none → dx ≠ a → Q .non (upd (upd H dx (exd dx [(("wrong" : Str), w)])) a (exo a C (some dx)))
def iniB (sc : Scope) (B : Str) : List Stmt → Bool
  | [.Expr (.Call (.Attribute (.Name x _) m p2) [.Name y _, .Constant (.str _) _ _] [] p5) _, .Assign [.Attribute (.Name z _) f _] (.Name u _) _] => decide (x = B) && (decide (m = "__init__") && (decide (y = "self") && (decide (z = "self") && (decide (f = "wrong") && (decide (u = "wrong") && (decide (p2.endLine = p5.line) &&
      (decide (sc.names.lookup B = some .globalImplicit) && (!(B == ("__debug__" : Str)) && (decide (sc.names.lookup ("self" : Str) = some .local) && decide (sc.names.lookup ("wrong" : Str) = some .local))))))))))
  | _ => false
structure IniK (K : PySem.W.Frag) (B : Addr) : Prop where
  sp : PySem.W.specialIn K (.ref B) "__getattribute__" = some (some (.builtin "type.__getattribute__"))
  rd : PySem.W.readsIn K B (.type "type") = true
  fc : PySem.W.findCls K (.ref B) (.type "type") "__init__" = some (.val (.builtin "ValueError.__init__"))
theorem ini_ok {P : Program} {w : World} {K : PySem.W.Frag} {mg : Str → Option Value} {base : Heap} {CX : CXT} {nm qual B : Str} {params : Arguments} {body : List Stmt} {scope : Scope} {f b : Addr} {fd : FuncData} (F : FunD K nm qual params body scope [] [] f fd) (S : FnScope ["self", "wrong"] ["self", "wrong"] scope) (h : iniB scope B body = true)
    (hm : mg B = some (.ref b)) (k : IniK K b) : FnOk P w K mg base CX 1 f fd ["self", "wrong"] (spIni K) := by
  refine F.ok S (fun vs H Q E h => ?_) fun cdv A outer s H vs Q E hr hsp => ?_
  · obtain ⟨a, C, w, rfl, _⟩ := h
    rfl
  unfold iniB at h
  split at h
  · rename_i x p1 m p2 y p3 msg j p4 p5 p6 z p7 f p8 u p9 p10
    have h' : (decide (x = B) && (decide (m = "__init__") && (decide (y = "self") && (decide (z = "self") && (decide (f = "wrong") && (decide (u = "wrong") && (decide (p2.endLine = p5.line) &&
      (decide (scope.names.lookup B = some .globalImplicit) && (!(B == ("__debug__" : Str)) && (decide (scope.names.lookup ("self" : Str) = some .local) && decide (scope.names.lookup ("wrong" : Str) = some .local))))))))))) = true := h
    simp only [Bool.and_eq_true, decide_eq_true_eq, Bool.not_eq_true'] at h'
    obtain ⟨rfl, rfl, rfl, rfl, rfl, rfl, h7, h8, h9, h10, h11⟩ := h'
    have vs0 : ∀ (X : Cx) (p : Pos), X.N = [("self" : Str), "wrong"] → X.env.scope = scope → PE X (.Name "self" p) (tVar 0) := fun X p e1 e2 => pe_var (by rw [e1]; rfl) (by rw [e2]; exact .inl h10)
    have vs1 : ∀ (X : Cx) (p : Pos), X.N = [("self" : Str), "wrong"] → X.env.scope = scope → PE X (.Name "wrong" p) (tVar 1) := fun X p e1 e2 => pe_var (by rw [e1]; rfl) (by rw [e2]; exact .inl h11)
    refine ⟨tSeq (tDrop (tVeI K (tCons (tVar 0) (tCons (tC (.str msg)) tNil)))) (tOst K "wrong" (tVar 0) (tVar 1)), ?_, ?_⟩
    · refine pss_cons (ps_expr (pe_binit h8 hm h9 k.sp k.rd k.fc (pa_cons (vs0 _ _ rfl rfl) (pa_cons pe_str pa_nil)) (eval_meth rfl (by rw [h7]; exact beq_self_eq_true _) rfl) rfl rfl)) (pss_one (ps_ost (vs0 _ _ rfl rfl) (vs1 _ _ rfl rfl)))
    · obtain ⟨a, C, w, rfl, T, hno, e, q⟩ := hsp
      refine ⟨_, rfl, ⟨a, C, [.str msg], rfl, by simp, T, e, ?_⟩⟩
      exact ⟨w, rfl, .ref a, rfl, a, C, rfl, T, hno, .inl ⟨e, q⟩⟩
  · cases h
end
end
end G

namespace G
open PySem PySem.Spec PyProof.Rows L2
open Classical
noncomputable section
section
variable {α β : Type} {K : PySem.W.Frag} {cA : Nat → Addr} {P : Pg} {W : WX} {c : Cf} {H : Hp} {s : Sto} {e : Env} {σ : L2.St}
/-! ### readings of the mini-language -/
def tE (K : PySem.W.Frag) (cA : Nat → Addr) (P : Pg) (W : WX) (m : E) : TE := fun σ H Q => ∃ c e s, Rep K cA c H s ∧ RelE K c e σ ∧ Post K cA c H (ev P m e s) (okQ K Q) (WW K cA W σ)
def bQ (Q : Bool → Hp → Prop) : D → Sto → Cf → Hp → Prop := fun d _ _ H' => ∃ b, dBool d = some b ∧ Q b H'
def tT (K : PySem.W.Frag) (cA : Nat → Addr) (P : Pg) (W : WX) (m : E) : TT := fun σ H Q => ∃ c e s, Rep K cA c H s ∧ RelE K c e σ ∧ Post K cA c H (ev P m e s) (bQ Q) (WW K cA W σ)
def lQ (K : PySem.W.Frag) (Q : List V → Hp → Prop) : List D → Sto → Cf → Hp → Prop := fun ds _ c' H' => ∀ vs, RepVs K c' ds vs → Q vs H'
def tA (K : PySem.W.Frag) (cA : Nat → Addr) (P : Pg) (W : WX) (m : Es) : TA := fun σ H Q => ∃ c e s, Rep K cA c H s ∧ RelE K c e σ ∧ Post K cA c H (evs P m e s) (lQ K Q) (WW K cA W σ)
def tO (K : PySem.W.Frag) (cA : Nat → Addr) (P : Pg) (W : WX) (m : Eo) : TO := fun σ H Q => ∃ c e s, Rep K cA c H s ∧ RelE K c e σ ∧ Post K cA c H (evo P m e s) (fun o _ _ H' => Q o H') (WW K cA W σ)
def tC1 (K : PySem.W.Frag) (cA : Nat → Addr) (P : Pg) (W : WX) (m : Eo) : TT := fun σ H Q => ∃ c e s, Rep K cA c H s ∧ RelE K c e σ ∧ Post K cA c H (evc P m e s) (fun o _ _ H' => Q o H') (WW K cA W σ)
def ItemR (K : PySem.W.Frag) (c : Cf) : Item → V → Prop
  | .one d, v => RepV K c d v
  | .tp ds, v => ∃ T vs, v = .ref T ∧ SqT K c.F T vs ∧ RepVs K c ds vs
theorem ItemR.mono {c' : Cf} {H' : Hp} (x : Ext c H c' H') {i : Item} {v : V} (h : ItemR K c i v) : ItemR K c' i v := by
  cases i with
  | one d => exact RepV.mono x h
  | tp ds =>
    obtain ⟨T, vs, h1, h2, h3⟩ := h
    exact ⟨T, vs, h1, seqT_mono x.f h2, RepVs.mono x h3⟩
/-- an iterator that gives the items -/
def JOk (K : PySem.W.Frag) (cA : Nat → Addr) (c1 : Cf) (H1 : Hp) (J : L2.It) (items : List Item) : Prop := ∀ c H s, Same c1.F c.F → Rep K cA c H s → ∀ i : Nat,
  (i < items.length → J.go i H) ∧ (∀ x, items[i]? = some x → ∀ v H', J.yld i H v H' → ∃ c', Ext c H c' H' ∧ Rep K cA c' H' s ∧ ItemR K c' x v) ∧ (i = items.length → J.stop i H)
def tI (K : PySem.W.Frag) (cA : Nat → Addr) (P : Pg) (W : WX) (m : It) : TI := fun σ H Q => ∃ c e s, Rep K cA c H s ∧ RelE K c e σ ∧ Post K cA c H (evi P m e s) (fun items s' c' H' => ∀ J, JOk K cA c' H' J items → Q J H') (WW K cA W σ)
def tgS : Tg → List Nat
  | .nm i => [i]
  | .tp is => is
def tG (K : PySem.W.Frag) (cA : Nat → Addr) (tg : Tg) : TG := fun v σ H Q => ∃ c e s x, Rep K cA c H s ∧ RelE K c e σ ∧ ItemR K c x v ∧ ∃ e', bindT tg x s e = some e' ∧ ∀ σ', RelE K c e' σ' → (∀ vs : List Nat, (∀ i ∈ tgS tg, i ∈ vs) → wipe σ' vs = wipe σ vs) → Q σ' H

theorem Post.bind0 {r : R α} {f : α → Sto → R β} {A : β → Sto → Cf → Hp → Prop} {W : Xn → Sto → Cf → Hp → Prop} (h : Post K cA c H (r.bind f) A W) : Post K cA c H r (fun a s' _ _ => Post K cA c H (f a s') A W) W := by
  cases r with
  | ok a s => exact fun _ _ _ _ => h
  | exc a s => exact h
  | bad => exact h
theorem tE.mono {m : E} {Q Q' : VK} (h : tE K cA P W m σ H Q) (k : ∀ v H', Q v H' → Q' v H') : tE K cA P W m σ H Q' := by
  obtain ⟨c, e, s, r, re, h⟩ := h
  exact ⟨c, e, s, r, re, h.imp (fun a s' c' H' _ _ z v hv => k _ _ (z v hv)) fun _ _ _ _ _ _ z => z⟩
theorem tT.mono {m : E} {Q Q' : Bool → Hp → Prop} (h : tT K cA P W m σ H Q) (k : ∀ v H', Q v H' → Q' v H') : tT K cA P W m σ H Q' := by
  obtain ⟨c, e, s, r, re, h⟩ := h
  exact ⟨c, e, s, r, re, h.imp (fun a s' c' H' _ _ ⟨b, z1, z2⟩ => ⟨b, z1, k _ _ z2⟩) fun _ _ _ _ _ _ z => z⟩
theorem tA.mono {m : Es} {Q Q' : List V → Hp → Prop} (h : tA K cA P W m σ H Q) (k : ∀ v H', Q v H' → Q' v H') : tA K cA P W m σ H Q' := by
  obtain ⟨c, e, s, r, re, h⟩ := h
  exact ⟨c, e, s, r, re, h.imp (fun a s' c' H' _ _ z v hv => k _ _ (z v hv)) fun _ _ _ _ _ _ z => z⟩
theorem tO.mono {m : Eo} {Q Q' : Option Int → Hp → Prop} (h : tO K cA P W m σ H Q) (k : ∀ v H', Q v H' → Q' v H') : tO K cA P W m σ H Q' := by
  obtain ⟨c, e, s, r, re, h⟩ := h
  exact ⟨c, e, s, r, re, h.imp (fun a s' c' H' _ _ z => k _ _ z) fun _ _ _ _ _ _ z => z⟩
theorem tC1.mono {m : Eo} {Q Q' : Bool → Hp → Prop} (h : tC1 K cA P W m σ H Q) (k : ∀ v H', Q v H' → Q' v H') : tC1 K cA P W m σ H Q' := by
  obtain ⟨c, e, s, r, re, h⟩ := h
  exact ⟨c, e, s, r, re, h.imp (fun a s' c' H' _ _ z => k _ _ z) fun _ _ _ _ _ _ z => z⟩
theorem tI.mono {m : It} {Q Q' : L2.It → Hp → Prop} (h : tI K cA P W m σ H Q) (k : ∀ v H', Q v H' → Q' v H') : tI K cA P W m σ H Q' := by
  obtain ⟨c, e, s, r, re, h⟩ := h
  exact ⟨c, e, s, r, re, h.imp (fun a s' c' H' _ _ z J j => k _ _ (z J j)) fun _ _ _ _ _ _ z => z⟩
variable {A : β → Sto → Cf → Hp → Prop}
theorem sub_e {m : E} {f : D → Sto → R β} {W' : Xn → Sto → Cf → Hp → Prop} (r : Rep K cA c H s) (re : RelE K c e σ) (h : Post K cA c H ((ev P m e s).bind f) A W') (hw : ∀ x s c' H', W' x s c' H' → WW K cA W σ x s c' H') :
    tE K cA P W m σ H (fun v H' => ∃ c' d s', Ext c H c' H' ∧ Rep K cA c' H' s' ∧ RelE K c' e σ ∧ RepV K c' d v ∧ Post K cA c' H' (f d s') A W') :=
  ⟨c, e, s, r, re, h.bind.imp (fun d s' c' H' x q z v hv => ⟨c', d, s', x, q, re.mono x, hv, z⟩) fun _ _ _ _ _ _ z => hw _ _ _ _ z⟩
theorem sub_a {m : Es} {f : List D → Sto → R β} {W' : Xn → Sto → Cf → Hp → Prop} (r : Rep K cA c H s) (re : RelE K c e σ) (h : Post K cA c H ((evs P m e s).bind f) A W') (hw : ∀ x s c' H', W' x s c' H' → WW K cA W σ x s c' H') :
    tA K cA P W m σ H (fun v H' => ∃ c' d s', Ext c H c' H' ∧ Rep K cA c' H' s' ∧ RelE K c' e σ ∧ RepVs K c' d v ∧ Post K cA c' H' (f d s') A W') :=
  ⟨c, e, s, r, re, h.bind.imp (fun d s' c' H' x q z v hv => ⟨c', d, s', x, q, re.mono x, hv, z⟩) fun _ _ _ _ _ _ z => hw _ _ _ _ z⟩
theorem sub_o {m : Eo} {f : Option Int → Sto → R β} {W' : Xn → Sto → Cf → Hp → Prop} (r : Rep K cA c H s) (re : RelE K c e σ) (h : Post K cA c H ((evo P m e s).bind f) A W') (hw : ∀ x s c' H', W' x s c' H' → WW K cA W σ x s c' H') :
    tO K cA P W m σ H (fun v H' => ∃ c' s', Ext c H c' H' ∧ Rep K cA c' H' s' ∧ RelE K c' e σ ∧ Post K cA c' H' (f v s') A W') :=
  ⟨c, e, s, r, re, h.bind.imp (fun d s' c' H' x q z => ⟨c', s', x, q, re.mono x, z⟩) fun _ _ _ _ _ _ z => hw _ _ _ _ z⟩
theorem sub_i {m : It} {f : List Item → Sto → R β} {W' : Xn → Sto → Cf → Hp → Prop} (r : Rep K cA c H s) (re : RelE K c e σ) (h : Post K cA c H ((evi P m e s).bind f) A W') (hw : ∀ x s c' H', W' x s c' H' → WW K cA W σ x s c' H') :
    tI K cA P W m σ H (fun J H' => ∃ c' d s', Ext c H c' H' ∧ Rep K cA c' H' s' ∧ RelE K c' e σ ∧ JOk K cA c' H' J d ∧ Post K cA c' H' (f d s') A W') :=
  ⟨c, e, s, r, re, h.bind.imp (fun d s' c' H' x q z J j => ⟨c', d, s', x, q, re.mono x, j, z⟩) fun _ _ _ _ _ _ z => hw _ _ _ _ z⟩
theorem tT_tE {m : E} {Q : Bool → Hp → Prop} (h : tT K cA P W m σ H Q) : tE K cA P W m σ H fun x H' => ∃ k, x = .bl k ∧ Q k H' := by
  obtain ⟨c, e, s, r, re, h⟩ := h
  exact ⟨c, e, s, r, re, h.imp (fun a s' c' H' _ _ ⟨b, z1, z2⟩ v hv => ⟨b, dBool_v z1 hv, z2⟩) fun _ _ _ _ _ _ z => z⟩

/-! ### iterators -/
theorem jok_one {vs : List V} {ds : List PyData} {c1 : Cf} {H1 : Hp} (hv : DqAll K c1.F vs ds) {J : L2.It} (hg : ∀ (c : Cf) (H : Hp), Same c1.F c.F → Same c.F H → ∀ i : Nat, (i < vs.length → J.go i H) ∧ (∀ v H', J.yld i H v H' → H' = H ∧ vs[i]? = some v) ∧ (i = vs.length → J.stop i H)) :
    JOk K cA c1 H1 J (ds.map fun d => .one (.p d)) := by
  intro c H s x r i
  obtain ⟨g1, g2, g3⟩ := hg c H x r.sub i
  have hl : vs.length = ds.length := by
    have := Paired.length (repVs_of (c := c1) hv)
    rw [List.length_map] at this
    exact this.symm
  refine ⟨fun h => g1 (by rw [List.length_map] at h; omega), fun y hy v H' hyl => ?_, fun h => g3 (by rw [List.length_map] at h; omega)⟩
  obtain ⟨rfl, e⟩ := g2 v H' hyl
  refine ⟨c, Ext.refl _ _, r, ?_⟩
  rw [List.getElem?_map] at hy
  cases q : ds[i]? with
  | none => rw [q] at hy; cases hy
  | some d =>
    rw [q] at hy
    cases hy
    obtain ⟨w, h1, h2⟩ := repVs_get (repVs_of (c := c1) hv) (i := i) (d := .p d) (by rw [List.getElem?_map, q]; rfl)
    rw [h1] at e
    cases e
    exact dq_mono x h2
theorem jok_list {a : Addr} {vs : List V} {ds : List PyData} {c1 : Cf} {H1 : Hp} (ha : c1.F a = some (.lst vs)) (hv : DqAll K c1.F vs ds) : JOk K cA c1 H1 (Itl K a) (ds.map fun d => .one (.p d)) := by
  refine jok_one hv fun c H x sub i => ?_
  have e : SqL K H a vs := SqL.of (sub a _ (x a _ ha))
  refine ⟨fun h => ⟨vs, vs[i], e, by simp [h]⟩, fun v H' y => ⟨y.1, y.2 vs e⟩, fun h => ⟨vs, e, by omega⟩⟩
theorem jok_tup {a : Addr} {vs : List V} {ds : List PyData} {c1 : Cf} {H1 : Hp} (ha : SqT K c1.F a vs) (hv : DqAll K c1.F vs ds) : JOk K cA c1 H1 (Itt K a) (ds.map fun d => .one (.p d)) := by
  refine jok_one hv fun c H x sub i => ?_
  have e : SqT K H a vs := seqT_mono (x.trans sub) ha
  refine ⟨fun h => ⟨vs, vs[i], e, by simp [h]⟩, fun v H' y => ⟨y.1, y.2 vs e⟩, fun h => ⟨vs, e, by omega⟩⟩
theorem jok_str {z : Str} {c1 : Cf} {H1 : Hp} : JOk K cA c1 H1 (Its z) (z.cps.toList.map fun c => Item.one (.p (.str ⟨#[c]⟩))) := by
  intro c H s x r i
  have hl : (z.cps.toList.map fun c => Item.one (.p (.str ⟨#[c]⟩))).length = z.cps.size := by rw [List.length_map, Array.length_toList]
  rw [hl]
  refine ⟨fun h => h, fun y hy v H' hyl => ?_, fun h => Nat.le_of_eq h.symm⟩
  obtain ⟨rfl, q, e1, rfl⟩ := hyl
  refine ⟨c, Ext.refl _ _, r, ?_⟩
  rw [List.getElem?_map, Array.getElem?_toList, e1] at hy
  cases hy
  exact Dq.str _
theorem jok_rng {lo : Int} {n : Nat} {c1 : Cf} {H1 : Hp} {g : Nat → Int} (hg : ∀ i : Nat, g i = lo + (i : Int)) : JOk K cA c1 H1 (Itr lo n) ((List.range n).map fun (k : Nat) => Item.one (.p (.int (g k)))) := by
  intro c H s x r i
  have hl : ((List.range n).map fun (k : Nat) => Item.one (.p (.int (g k)))).length = n := by rw [List.length_map, List.length_range]
  rw [hl]
  refine ⟨fun h => h, fun y hy v H' hyl => ?_, fun h => Nat.le_of_eq h.symm⟩
  obtain ⟨rfl, rfl⟩ := hyl
  refine ⟨c, Ext.refl _ _, r, ?_⟩
  rw [List.getElem?_map] at hy
  by_cases q : i < n
  · rw [List.getElem?_range q] at hy
    cases hy
    show RepV K c (.p (.int (g i))) _
    rw [hg]
    exact ok_int
  · rw [List.getElem?_eq_none (by rw [List.length_range]; omega)] at hy
    cases hy
theorem enumI_get : ∀ (xs : List D) (j i : Nat), (enumI j xs)[i]? = (xs[i]?).map fun x => .tp [.p (.int ((j + i : Nat) : Int)), x]
  | [], j, i => by simp [enumI]
  | x :: xs, j, 0 => by simp [enumI]
  | x :: xs, j, i + 1 => by
    simp only [enumI, List.getElem?_cons_succ]
    rw [enumI_get xs (j + 1) i]
    congr 1
    funext y
    have : j + 1 + i = j + (i + 1) := by omega
    rw [this]
theorem enumI_len : ∀ (xs : List D) (j : Nat), (enumI j xs).length = xs.length
  | [], _ => rfl
  | _ :: xs, j => by simp only [enumI, List.length_cons, enumI_len xs]
theorem jok_enum {a : Addr} {vs : List V} {ds : List PyData} {c1 : Cf} {H1 : Hp} (ha : c1.F a = some (.lst vs)) (hv : DqAll K c1.F vs ds) : JOk K cA c1 H1 (Ite K a) (enumI 0 (ds.map .p)) := by
  intro c H s x r i
  have e : SqL K H a vs := SqL.of (r.sub a _ (x a _ ha))
  have hvs := repVs_of (c := c1) hv
  have hl : (enumI 0 (ds.map D.p)).length = vs.length := by rw [enumI_len]; exact Paired.length hvs
  rw [hl]
  refine ⟨fun h => ⟨vs, vs[i], e, by simp [h]⟩, fun y hy v H' hyl => ?_, fun h => ⟨vs, e, by omega⟩⟩
  obtain ⟨T, w, rfl, hT, rfl, hw⟩ := hyl
  obtain ⟨f1, f2⟩ := r.fresh hT
  have x2 : Ext c H ⟨upd c.F T (.tup [.int (i : Nat), w]), c.ι⟩ (upd H T (.tup [.int (i : Nat), w])) := (Ext.grow hT).adF f1 hT
  refine ⟨_, x2, (r.grow hT).adF upd_same f1 f2, ?_⟩
  rw [enumI_get] at hy
  cases q : (ds.map D.p)[i]? with
  | none => rw [q] at hy; cases hy
  | some d =>
    rw [q] at hy
    cases hy
    obtain ⟨w', h1, h2⟩ := repVs_get hvs q
    rw [hw vs e] at h1
    cases h1
    have h3 : RepV K ⟨upd c.F T (.tup [.int (i : Nat), w]), c.ι⟩ d w := by
      rw [List.getElem?_map] at q
      cases q3 : ds[i]? with
      | none => rw [q3] at q; cases q
      | some d' =>
        rw [q3] at q
        cases q
        exact dq_mono (x.trans x2.f) h2
    refine ⟨T, _, rfl, SqT.of upd_same, .cons ?_ (.cons h3 .nil)⟩
    have : (0 + i : Nat) = i := Nat.zero_add i
    rw [this]
    exact ok_int

/-! ### targets -/
theorem wipe_get (σ : L2.St) : ∀ (vs : List Nat) (j : Nat), (wipe σ vs)[j]? = if j ∈ vs then (if j < σ.length then some none else none) else σ[j]?
  | [], j => by simp [wipe]
  | v :: vs, j => by
    unfold wipe
    by_cases h : j = v
    · subst h
      by_cases q : j < σ.length
      · rw [List.getElem?_set_self (by rw [wipe_length]; exact q), if_pos List.mem_cons_self, if_pos q]
      · rw [List.getElem?_eq_none (by rw [List.length_set, wipe_length]; omega), if_pos List.mem_cons_self, if_neg q]
    · rw [List.getElem?_set_ne (Ne.symm h), wipe_get σ vs j]
      by_cases m : j ∈ vs
      · rw [if_pos m, if_pos (List.mem_cons_of_mem _ m)]
      · rw [if_neg m, if_neg (by simp [h, m])]
theorem wipe_set {σ : L2.St} {i : Nat} {x : Option V} {vs : List Nat} (h : i ∈ vs) : wipe (σ.set i x) vs = wipe σ vs := by
  apply List.ext_getElem?
  intro j
  rw [wipe_get, wipe_get, List.length_set]
  by_cases m : j ∈ vs
  · rw [if_pos m, if_pos m]
  · rw [if_neg m, if_neg m]
    have : j ≠ i := fun z => m (z ▸ h)
    exact List.getElem?_set_ne (Ne.symm this)
def setSl : L2.St → List Nat → List V → L2.St
  | σ, i :: is, v :: vs => setSl (σ.set i (some v)) is vs
  | σ, _, _ => σ
theorem setSl_wipe : ∀ (is : List Nat) (vs : List V) (σ : L2.St) (ws : List Nat), (∀ i ∈ is, i ∈ ws) → wipe (setSl σ is vs) ws = wipe σ ws
  | [], _, σ, ws, _ => by unfold setSl; rfl
  | i :: is, [], σ, ws, _ => by unfold setSl; rfl
  | i :: is, v :: vs, σ, ws, h => by
    unfold setSl
    rw [setSl_wipe is vs _ ws fun j m => h j (List.mem_cons_of_mem _ m), wipe_set (h i List.mem_cons_self)]
theorem setAll_rel {c : Cf} : ∀ (is : List Nat) (ds : List D) (vs : List V) (e e' : Env) (σ : L2.St), RelE K c e σ → RepVs K c ds vs → setAll is ds e = some e' → RelE K c e' (setSl σ is vs)
  | [], [], vs, e, e', σ, re, hv, h => by
    cases h
    cases hv
    unfold setSl
    exact re
  | i :: is, d :: ds, vs, e, e', σ, re, hv, h => by
    cases hv with
    | cons h1 h2 =>
      simp only [setAll] at h
      split at h
      · unfold setSl
        exact setAll_rel is ds _ _ _ _ (re.set h1) h2 h
      · cases h
  | [], _ :: _, _, _, _, _, _, _, h => by cases h
  | _ :: _, [], _, _, _, _, _, _, h => by cases h
def tGs (is : List Nat) : TGs := fun vs σ H Q => vs.length = is.length ∧ Q (setSl σ is vs) H
end
section
variable {X : Cx} {N : List Str} {fb : Str → Bool} {cA : Nat → Addr}
/-- a local name that may be stored -/
def locB (sc : Scope) (fb : Str → Bool) (x : Str) : Bool := match sc.names.lookup x with
  | some .local => true
  | some .cell => fb x
  | _ => false
theorem locB_ok {sc : Scope} {x : Str} (h : locB sc fb x = true) : L2.Loc sc x ∧ (fb x = true ∨ sc.names.lookup x = some .local) := by
  unfold locB at h
  unfold L2.Loc
  split at h
  · rename_i e; exact ⟨.inl e, .inr e⟩
  · rename_i e; exact ⟨.inr e, .inl h⟩
  · cases h
def ckN (N : List Str) (sc : Scope) (fb : Str → Bool) (i : Nat) : Expr → Bool
  | .Name x _ => decide (N[i]? = some x) && locB sc fb x
  | _ => false
def ckNs (N : List Str) (sc : Scope) (fb : Str → Bool) : List Nat → List Expr → Bool
  | [], [] => true
  | i :: is, e :: es => ckN N sc fb i e && ckNs N sc fb is es
  | _, _ => false
def ckG (N : List Str) (sc : Scope) (fb : Str → Bool) : Tg → Expr → Bool
  | .nm i, e => ckN N sc fb i e
  | .tp is, .Tuple es _ _ => ckNs N sc fb is es
  | _, _ => false
theorem ckN_ok {i : Nat} {e : Expr} (h : ckN N X.env.scope X.fn i e = true) (hN : X.N = N) (nd : X.N.Nodup) : ∃ x pos, e = .Name x pos ∧ X.N[i]? = some x ∧ L2.Loc X.env.scope x ∧ (X.fn x = true ∨ X.env.scope.names.lookup x = some .local) := by
  unfold ckN at h
  split at h
  · rename_i x pos
    obtain ⟨h1, h2⟩ := Bool.and_eq_true_iff.mp h
    obtain ⟨h3, h4⟩ := locB_ok h2
    exact ⟨x, pos, rfl, by rw [hN]; exact of_decide_eq_true h1, h3, h4⟩
  · cases h
theorem pgs_ck : ∀ {is : List Nat} {es : List Expr}, ckNs N X.env.scope X.fn is es = true → X.N = N → X.N.Nodup → PGs X es (tGs is) ∧ (assignEach es X.env).length = is.length ∧ (assignEach es X.env).findIdx? (·.1) = none
  | [], [], _, _, _ => ⟨⟨fun pins s σ H vs us Q I r h => by
    obtain ⟨h1, h2⟩ := h
    cases vs with
    | nil => exact pgs_nil.run pins s σ H [] us Q I r ⟨rfl, h2⟩
    | cons v vs => cases h1⟩, rfl, rfl⟩
  | i :: is, e :: es, h, hN, nd => by
    obtain ⟨h1, h2⟩ := Bool.and_eq_true_iff.mp (show (ckN N X.env.scope X.fn i e && ckNs N X.env.scope X.fn is es) = true from h)
    obtain ⟨x, pos, rfl, g1, g2, g3⟩ := ckN_ok h1 hN nd
    obtain ⟨k1, k2, k3⟩ := pgs_ck h2 hN nd
    refine ⟨⟨fun pins s σ H vs us Q I r h => ?_⟩, ?_, ?_⟩
    · obtain ⟨q1, q2⟩ := h
      cases vs with
      | nil => cases q1
      | cons v vs => exact (pgs_cons (pg_name nd g1 g2 g3) k1).run pins s σ H (v :: vs) us Q I r ⟨v, vs, rfl, by simpa using q1, q2⟩
    · show (assignEach es X.env).length + 1 = is.length + 1
      rw [k2]
    · show List.findIdx? (·.1) ((false, _) :: assignEach es X.env) = none
      rw [List.findIdx?_cons, k3]
      rfl
  | [], _ :: _, h, _, _ => by cases h
  | _ :: _, [], h, _, _ => by cases h
theorem pg_ck {tg : Tg} {e : Expr} (h : ckG N X.env.scope X.fn tg e = true) (hN : X.N = N) (nd : X.N.Nodup) (hc : X.calm = true) : PG X e (tG X.K cA tg) := by
  cases tg with
  | nm i =>
    obtain ⟨x, pos, rfl, g1, g2, g3⟩ := ckN_ok h hN nd
    refine PG.imp (pg_name nd g1 g2 g3) ?_
    rintro v σ H Q ⟨c, e, s, x, r, re, hi, e', hb, k⟩
    cases x with
    | tp ds => cases hb
    | one d =>
      simp only [bindT] at hb
      split at hb
      · cases hb
        exact k _ (re.set hi) fun vs q => wipe_set (q i (by simp [tgS]))
      · cases hb
  | tp is =>
    cases e with
    | Tuple es kk pos =>
      obtain ⟨k1, k2, k3⟩ := pgs_ck h hN nd
      refine PG.imp (PG.or (pg_tup hc k1 k2 k3) (pg_lst hc k1 k2 k3)) ?_
      rintro v σ H Q ⟨c, e, s, x, r, re, hi, e', hb, k⟩
      have fin : ∀ ds vs, RepVs X.K c ds vs → is.length = ds.length → setAll is ds e = some e' → vs.length = is.length ∧ tGs is vs σ H Q := fun ds vs hv hl q => by
        have l1 := Paired.length hv
        refine ⟨by omega, by omega, k _ (setAll_rel is ds vs e e' σ re hv q) fun ws hw => setSl_wipe is vs σ ws hw⟩
      cases x with
      | tp ds =>
        obtain ⟨T, vs, rfl, h1, h2⟩ := hi
        simp only [bindT] at hb
        split at hb
        · rename_i hl
          obtain ⟨f1, f2⟩ := fin ds vs h2 hl hb
          exact .inl ⟨T, vs, rfl, seqT_mono r.sub h1, f1, f2⟩
        · cases hb
      | one d =>
        simp only [bindT] at hb
        cases q : asSq s d with
        | none => rw [q] at hb; cases hb
        | some ds =>
          rw [q] at hb
          dsimp only at hb
          split at hb
          · rename_i hl
            obtain ⟨a, vs, rfl, ha, hv⟩ := asSq_v r q hi
            obtain ⟨f1, f2⟩ := fin ds vs hv hl hb
            rcases ha with ha | ha
            · exact .inr ⟨a, vs, rfl, SqL.of ha, f1, f2⟩
            · exact .inl ⟨a, vs, rfl, ha, f1, f2⟩
          · cases hb
    | _ => cases h
end
end
end G

namespace G
open PySem PySem.Spec PyProof.Rows L2
open Classical
noncomputable section
/-! ### what is known of the text's names -/
structure Tb where
  fns : List (Str × Nat)
  cns : List Str
  gls : List Str
  fr : List Str
  exs : List (Str × Bool)
/-- what stands fast of the own exception classes -/
structure ExF (K : PySem.W.Frag) (mg : Str → Option Value) (cA : Nat → Addr) (exs : List (Str × Bool)) (sb : Nat → Nat → Option Bool) : Prop where
  gl : ∀ (k : Nat) (x : Str) (b : Bool), exs[k]? = some (x, b) → mg x = some (.ref (cA k)) ∧ PySem.W.keepIn K (.ref (cA k)) = true
  ea : ∀ (k j : Nat) (b : Bool), sb k j = some b → ExA K (cA k) ∧ PySem.W.exmOne K (.ref (cA k)) (.ref (cA j)) = some b ∧ PySem.W.kitOne K (.ref (cA k)) (.ref (cA j)) = some b
  nn : ∀ (k : Nat) (b : Bool), sb k k = some b → PySem.W.kitOne K (.type "NoneType") (.ref (cA k)) = some false ∧ PySem.W.kitOne K (.ref (cA k)) (.type "ValueError") = some true
  r0 : ∀ (k : Nat) (x : Str), exs[k]? = some (x, false) → PySem.W.excIn K (cA k) He.veBase "ValueError.__new__" = true ∧ PySem.W.subIn K (.ref (cA k)) (.type "BaseException") = some true ∧ PySem.W.typeIn K (.ref (cA k)) = some (.type "type")
def spF (K : PySem.W.Frag) (cA : Nat → Addr) (P : Pg) (f n : Nat) : Sp := fun vs H Q E => ∃ c ds s, Rep K cA c H s ∧ RepVs K c ds vs ∧ ds.length = n ∧ Post K cA c H (P.Φ f ds s) (okQ K Q) (fun x _ c' H' => ∀ cls dd, XnR K cA c' x cls dd → E cls dd H')
structure Gb (T : Tb) (P : Pg) (cA : Nat → Addr) (lv : Nat) (prog : Program) (w : World) (K : PySem.W.Frag) (mg : Str → Option Value) (base : Heap) : Prop where
  fn : ∀ (f : Nat) (x : Str) (n : Nat), T.fns[f]? = some (x, n) → ∃ a fd ps, FnG prog w K mg base lv a fd ps (spF K cA P f n) ∧ mg x = some (.ref a) ∧ PySem.W.keepIn K (.ref a) = true ∧ L2.Binds K fd ps []
  gl : ∀ (i : Nat) (x : Str), T.gls[i]? = some x → ∃ u v, mg x = some u ∧ RelV v u ∧ ∀ F : Hp, Dq K F v (P.gl i)
  fr : ∀ x ∈ T.fr, mg x = none
  ex : ExF K mg cA T.exs P.sb
  ini : ∀ (k : Nat) (x : Str), T.exs[k]? = some (x, true) → OexC K (cA k) ∧ PySem.W.findIn K (.ref (cA k)) "wrong" = some none ∧ ∃ fI fd, PySem.W.findIn K (.ref (cA k)) "__init__" = some (some (.ref fI)) ∧ PySem.W.typeIn K (.ref fI) = some (.type "function") ∧ FnOk prog w K mg base (L2.CX prog w) 1 fI fd ["self", "wrong"] (spIni K) ∧ L2.Binds K fd ["self", "wrong"] []
structure XC (T : Tb) (P : Pg) (cA : Nat → Addr) (lv : Nat) (X : Cx) (N : List Str) (sc : Scope) (fb : Str → Bool) (W : WX) : Prop where
  hN : X.N = N
  nd : X.N.Nodup
  sc : X.env.scope = sc
  fb : X.fn = fb
  calm : X.calm = true
  room : Room (lv + 3) X.A
  gd : X.A.guards = some []
  tk : Takes X W
  g : Gb T P cA lv X.prog X.w X.K X.mg X.base

/-! ### does the mini-text tell the text? -/
def visB (sc : Scope) (x : Str) : Bool := match sc.names.lookup x with
  | some .local => true
  | some .cell => true
  | some .free => true
  | _ => false
def glB (sc : Scope) (x : Str) : Bool := match sc.names.lookup x with
  | some .globalImplicit => true
  | _ => false
theorem visB_ok {sc : Scope} {x : Str} (h : visB sc x = true) : L2.Vis sc x := by
  unfold visB at h
  unfold L2.Vis
  split at h
  · rename_i e; exact .inl e
  · rename_i e; exact .inr (.inl e)
  · rename_i e; exact .inr (.inr e)
  · cases h
theorem glB_ok {sc : Scope} {x : Str} (h : glB sc x = true) : sc.names.lookup x = some .globalImplicit := by
  unfold glB at h
  split at h
  · assumption
  · cases h
def plainE : Expr → Bool
  | .Starred .. => false
  | .Set .. => false
  | .Slice .. => false
  | _ => true
def ckK : PyData → Const → Bool
  | .none, .none => true
  | .bool a, .bool b => a == b
  | .int a, .int b => decide (a = b)
  | .str a, .str b => decide (a = b)
  | _, _ => false
def oB : Bop → Operator → Bool
  | .add, .Add => true
  | .sub, .Sub => true
  | .mul, .Mult => true
  | .fdiv, .FloorDiv => true
  | .mod, .Mod => true
  | .pow, .Pow => true
  | _, _ => false
theorem oB_ok {a : Bop} {b : Operator} (h : oB a b = true) : b = aBop a := by
  cases a <;> cases b <;> first | rfl | cases h
def oC : Cop → CmpOp → Bool
  | .eq, .Eq => true
  | .ne, .NotEq => true
  | .lt, .Lt => true
  | .le, .LtE => true
  | .gt, .Gt => true
  | .ge, .GtE => true
  | .is_, .Is => true
  | .isn, .IsNot => true
  | .in_, .In => true
  | .nin, .NotIn => true
  | _, _ => false
theorem oC_ok {a : Cop} {b : CmpOp} (h : oC a b = true) : b = aCop a := by
  cases a <;> cases b <;> first | rfl | cases h
def restB (op : BoolOp) (y : Expr) (rest : List Expr) (pos : Pos) : Expr := match rest with
  | [] => y
  | z :: r => .BoolOp op (y :: z :: r) pos
def biN : Bi → Str
  | .len => "len"
  | .list => "list"
  | .tuple => "tuple"
  | .abs => "abs"
  | .min => "min"
  | .max => "max"
  | .int => "int"
  | .repr => "repr"
  | .all => "all"
  | .any => "any"
  | .sum => "sum"
  | .sorted => "sorted"
  | .dict => "dict"
  | .str => "str"
def biOk : Bi → Bool
  | .len => true
  | .list => true
  | .tuple => true
  | .abs => true
  | .min => true
  | .max => true
  | .int => true
  | .all => true
  | .any => true
  | .sum => true
  | .repr => true
  | _ => false
def tyN : Ty → Str
  | .int => "int"
  | .bool => "bool"
  | .str => "str"
  | .tuple => "tuple"
  | .list => "list"
  | .dict => "dict"
  | .own _ => ""
def bltTy : Ty → Bool
  | .own _ => false
  | _ => true
def nmB : Expr → Str → Bool
  | .Name z _, x => decide (z = x)
  | _, _ => false
theorem nmB_ok {e : Expr} {x : Str} (h : nmB e x = true) : ∃ p, e = .Name x p := by
  cases e with
  | Name z p => exact ⟨p, by rw [of_decide_eq_true h]⟩
  | _ => exact Bool.noConfusion (show false = true from h)
def attB : Expr → Bool
  | .Call (.Name _ _) [] [] _ => false
  | _ => true
def ownOf (N : List Str) (ow : List Nat) : List (Str × Nat) := ow.filterMap fun i => (N[i]?).map fun x => (x, i)
def dbgB (x : Str) : Bool := !(x == ("__debug__" : Str)) && !(x == ("__classdict__" : Str)) && !decide (x = "__name__")
def isxB (T : Tb) (sc : Scope) (k : Option Nat) (z : Expr) : Bool := match k with
  | none => nmB z "ValueError" && (decide (("ValueError" : Str) ∈ T.fr) && glB sc "ValueError" && dbgB "ValueError")
  | some k => (match T.exs[k]? with
    | some (c, _) => nmB z c && (glB sc c && dbgB c)
    | none => false)
def blB (T : Tb) (sc : Scope) (x : Str) : Bool := decide (x ∈ T.fr) && glB sc x && dbgB x
def tstB : E → Bool
  | .nv => false
  | .frz _ => false
  | .ife _ _ _ => false
  | _ => true
variable (T : Tb) (N : List Str)
mutual
def ckE : E → Scope → (Str → Bool) → Expr → Bool
  | .nv, _, _, _ => true
  | .v i, sc, _, .Name x _ => decide (N[i]? = some x) && (visB sc x && dbgB x)
  | .k d, _, _, .Constant c _ _ => ckK d c
  | .g i, sc, _, .Name x _ => decide (T.gls[i]? = some x) && (glB sc x && dbgB x)
  | .tup es, sc, fb, .Tuple xs _ _ => ckEs es sc fb xs
  | .lst _ es, sc, fb, .List xs _ => ckEs es sc fb xs
  | .bin op _ a b, sc, fb, .BinOp x o y _ => oB op o && (ckE a sc fb x && ckE b sc fb y)
  | .neg a, sc, fb, .UnaryOp .USub x _ => ckE a sc fb x
  | .nt a, sc, fb, .UnaryOp .Not x _ => ckE a sc fb x && tstB a
  | .cmp op a b, sc, fb, .Compare x [o] [y] _ => oC op o && (ckE a sc fb x && (ckE b sc fb y && plainE y))
  | .chn o1 o2 a b c, sc, fb, .Compare x [p1, p2] [y, z] _ => (oC o1 p1 && oC o2 p2) && (ckE a sc fb x && (ckE b sc fb y && (ckE c sc fb z && plainE z)))
  | .an a b, sc, fb, .BoolOp .And (x :: y :: r) pos => (ckE a sc fb x && tstB a) && (ckE b sc fb (restB .And y r pos) && tstB b)
  | .orr a b, sc, fb, .BoolOp .Or (x :: y :: r) pos => (ckE a sc fb x && tstB a) && (ckE b sc fb (restB .Or y r pos) && tstB b)
  | .ife c a b, sc, fb, .IfExp x y z _ => (ckE c sc fb x && tstB c) && (ckE a sc fb y && ckE b sc fb z)
  | .ix a i, sc, fb, .Subscript x y _ => ckE a sc fb x && (ckE i sc fb y && plainE y)
  | .sl _ a lo hi, sc, fb, .Subscript x (.Slice l h none _) _ => ckE a sc fb x && (ckO lo sc fb l && ckO hi sc fb h)
  | .rev _ a, sc, fb, .Subscript x (.Slice none none (some (.UnaryOp .USub (.Constant (.int 1) _ _) _)) _) _ => ckE a sc fb x
  | .call f es, sc, fb, .Call (.Name x _) (y :: ys) [] _ => (match T.fns[f]? with
    | some (z, n) => decide (z = x) && decide (n = (y :: ys).length)
    | none => false) && (glB sc x && dbgB x) && ckEs es sc fb (y :: ys)
  | .bi b _ a, sc, fb, .Call (.Name x _) [y] [] _ => biOk b && (decide (x = biN b) && blB T sc x) && (ckE a sc fb y && plainE y)
  | .isi a t, sc, fb, .Call (.Name x _) [y, z] [] _ => decide (x = "isinstance") && blB T sc x && (nmB z (tyN t) && blB T sc (tyN t) && (ckE a sc fb y && plainE y)) && bltTy t
  | .isx a k, sc, fb, .Call (.Name x _) [y, z] [] _ => decide (x = "isinstance") && blB T sc x && (isxB T sc k z && (ckE a sc fb y && plainE y))
  | .fld a f, sc, fb, .Attribute x n _ => decide (f = n) && (attB x && ckE a sc fb x)
  | .app a x, sc, fb, .Call (.Attribute y m ap) [z] [] cp => decide (m = "append") && (decide (ap.endLine = cp.line) && attB y) && (ckE a sc fb y && (ckE x sc fb z && plainE z))
  | .ins a i x, sc, fb, .Call (.Attribute y m ap) [z, u] [] cp => decide (m = "insert") && (decide (ap.endLine = cp.line) && attB y) && (ckE a sc fb y && (ckE i sc fb z && plainE z && (ckE x sc fb u && plainE u)))
  | .lc _ el ow tg it c, sc, fb, .ListComp x [⟨t, i, ifs, 0⟩] bs _ => blkC N sc bs (ownOf N ow) && (decide ((ownOf N ow).map (·.2) = ow) && (tgS tg).all (fun j => decide (j ∈ ow))) &&
      (ckI it sc fb t i && plainE i) && (ckG N (relS bs sc) (fun x => bs.names.lookup x == some .cell) tg t && (ckC c (relS bs sc) (fun x => bs.names.lookup x == some .cell) ifs && ckE el (relS bs sc) (fun x => bs.names.lookup x == some .cell) x))
  | .lc2 _ el ow tg it tg2 it2 ow2 c, sc, fb, .ListComp x [⟨t, i, [], 0⟩, ⟨t2, i2, ifs, 0⟩] bs _ => blkC N sc bs (ownOf N ow) && (decide ((ownOf N ow).map (·.2) = ow) && (tgS tg).all (fun j => decide (j ∈ ow)) && ((tgS tg2).all (fun j => decide (j ∈ ow2)) && ow2.all (fun j => decide (j ∈ ow)))) &&
      (ckI it sc fb t i && plainE i) && (ckG N (relS bs sc) (fun x => bs.names.lookup x == some .cell) tg t && ((ckI it2 (relS bs sc) (fun x => bs.names.lookup x == some .cell) t2 i2 && plainE i2) && ckG N (relS bs sc) (fun x => bs.names.lookup x == some .cell) tg2 t2) && (ckC c (relS bs sc) (fun x => bs.names.lookup x == some .cell) ifs && ckE el (relS bs sc) (fun x => bs.names.lookup x == some .cell) x))
  | .frz a, sc, fb, x => ckE a sc fb x
  | _, _, _, _ => false
def ckEs : Es → Scope → (Str → Bool) → List Expr → Bool
  | .nil, _, _, [] => true
  | .cons a es, sc, fb, x :: xs => (ckE a sc fb x && plainE x) && ckEs es sc fb xs
  | _, _, _, _ => false
def ckO : Eo → Scope → (Str → Bool) → Option Expr → Bool
  | .no, _, _, none => true
  | .so a, sc, fb, some x => ckE a sc fb x
  | _, _, _, _ => false
def ckC : Eo → Scope → (Str → Bool) → List Expr → Bool
  | .no, _, _, [] => true
  | .so a, sc, fb, [x] => ckE a sc fb x && tstB a
  | _, _, _, _ => false
def ckI : It → Scope → (Str → Bool) → Expr → Expr → Bool
  | .seq a, sc, fb, _, x => ckE a sc fb x
  | .rng a, sc, fb, _, .Call (.Name x _) [y] [] _ => decide (x = "range") && blB T sc x && (ckE a sc fb y && plainE y)
  | .rng2 a b, sc, fb, _, .Call (.Name x _) [y, z] [] _ => decide (x = "range") && blB T sc x && (ckE a sc fb y && plainE y && (ckE b sc fb z && plainE z))
  | .enu a, sc, fb, .Tuple _ _ _, .Call (.Name x _) [y] [] _ => decide (x = "enumerate") && blB T sc x && (ckE a sc fb y && plainE y)
  | _, _, _, _, _ => false
end
end
end G

namespace G
open PySem PySem.Spec PyProof.Rows L2
open Classical
noncomputable section
/-! ### small facts of the text -/
theorem star_cons {e : Expr} {es : List Expr} {env : PySem.Env} (h : plainE e = true) : starEach (e :: es) env = (false, eval e env) :: starEach es env := by
  cases e <;> first | rfl | exact Bool.noConfusion (show false = true from h)
theorem star_any {env : PySem.Env} {pos : Pos} : ∀ {es : List Expr}, es.all plainE = true → (backTo pos (starEach es env)).any (·.1) = false
  | [], _ => rfl
  | e :: es, h => by
    rw [List.all_cons, Bool.and_eq_true] at h
    rw [star_cons h.1]
    show (false || (backTo pos (starEach es env)).any (·.1)) = false
    rw [star_any h.2]
    rfl
theorem plain_ix {e : Expr} (h : plainE e = true) : PlainIx e := by
  intro o i
  cases e <;> first | rfl | exact Bool.noConfusion (show false = true from h)
theorem plain_set {e : Expr} {env : PySem.Env} (h : plainE e = true) : ∀ x, foldedSetIterable e env x = pure x := by
  intro x
  cases e <;> first | rfl | exact Bool.noConfusion (show false = true from h)
theorem plain_mark {e : Expr} (op : CmpOp) (h : plainE e = true) : behindInMarks op e = false := by
  cases e <;> first | rfl | exact Bool.noConfusion (show false = true from h)
theorem att_base {e : Expr} {x : Str} {env : PySem.Env} (h : attB e = true) : attributeBase e x env (eval e env) = eval e env := by
  unfold attributeBase
  split
  · exact Bool.noConfusion (show false = true from h)
  · rfl
theorem dbgB_ok {x : Str} (h : dbgB x = true) : (x == ("__debug__" : Str)) = false ∧ (x == ("__classdict__" : Str)) = false ∧ x ≠ "__name__" := by
  unfold dbgB at h
  simp only [Bool.and_eq_true, Bool.not_eq_true', decide_eq_false_iff_not] at h
  exact ⟨h.1.1, h.1.2, h.2⟩
section
variable {T : Tb} {N : List Str} {P : Pg} {cA : Nat → Addr} {lv : Nat}
theorem blB_ok {X : Cx} {sc : Scope} {fb : Str → Bool} {W : WX} {x : Str} (h : blB T sc x = true) (hX : XC T P cA lv X N sc fb W) : Gl X x ∧ X.mg x = none ∧ (x == ("__debug__" : Str)) = false ∧ x ≠ "__name__" := by
  unfold blB at h
  simp only [Bool.and_eq_true, decide_eq_true_eq] at h
  obtain ⟨⟨h1, h2⟩, h3⟩ := h
  obtain ⟨g1, g2, g3⟩ := dbgB_ok h3
  refine ⟨?_, hX.g.fr x h1, g1, g3⟩
  have e := glB_ok h2
  rw [← hX.sc] at e
  exact e
theorem glB_gl {X : Cx} {sc : Scope} {fb : Str → Bool} {W : WX} {x : Str} (h : glB sc x = true) (hX : XC T P cA lv X N sc fb W) : Gl X x := by
  have e := glB_ok h
  rw [← hX.sc] at e
  exact e
theorem ckEs_plain : ∀ {es : Es} {sc : Scope} {fb : Str → Bool} {xs : List Expr}, ckEs T N es sc fb xs = true → xs.all plainE = true
  | .nil, sc, fb, [], _ => rfl
  | .nil, sc, fb, _ :: _, h => Bool.noConfusion (show false = true from h)
  | .cons a es, sc, fb, [], h => Bool.noConfusion (show false = true from h)
  | .cons a es, sc, fb, x :: xs, h => by
    have h' : ((ckE T N a sc fb x && plainE x) && ckEs T N es sc fb xs) = true := h
    simp only [Bool.and_eq_true] at h'
    rw [List.all_cons, h'.1.2, ckEs_plain h'.2]
    rfl
theorem lens {K : PySem.W.Frag} {c : Cf} {H : Hp} {W : Xn → Sto → Cf → Hp → Prop} : ∀ {es : Es} {sc : Scope} {fb : Str → Bool} {xs : List Expr} {e : Env} {s : Sto} {A : List D → Sto → Cf → Hp → Prop}, ckEs T N es sc fb xs = true → Post K cA c H (evs P es e s) A W → Post K cA c H (evs P es e s) (fun ds s' c' H' => ds.length = xs.length ∧ A ds s' c' H') W
  | .nil, sc, fb, [], e, s, A, _, h => fun c' H' x r => ⟨rfl, h c' H' x r⟩
  | .nil, sc, fb, _ :: _, _, _, _, h, _ => Bool.noConfusion (show false = true from h)
  | .cons a es, sc, fb, [], _, _, _, h, _ => Bool.noConfusion (show false = true from h)
  | .cons a es, sc, fb, x :: xs, e, s, A, h, hp => by
    have h' : ((ckE T N a sc fb x && plainE x) && ckEs T N es sc fb xs) = true := h
    simp only [Bool.and_eq_true] at h'
    simp only [evs] at hp ⊢
    cases q : ev P a e s with
    | bad => rw [q] at hp; exact hp.elim
    | exc y s1 => rw [q] at hp; exact hp
    | ok d s1 =>
      rw [q] at hp
      have hp1 : Post K cA c H ((evs P es e s1).bind fun xs s2 => .ok (d :: xs) s2) A W := hp
      have l := lens (A := fun _ _ _ _ => True) h'.2 (hp1.bind.imp (fun _ _ _ _ _ _ _ => trivial) fun _ _ _ _ _ _ z => z)
      show Post K cA c H ((evs P es e s1).bind fun xs s2 => .ok (d :: xs) s2) _ W
      cases q2 : evs P es e s1 with
      | bad => rw [q2] at hp1; exact hp1.elim
      | exc y s1 => rw [q2] at hp1; exact hp1
      | ok ds s2 =>
        rw [q2] at hp1 l
        intro c' H' x r
        exact ⟨by
          have := (l c' H' x r).1
          simp [this], hp1 c' H' x r⟩

/-! ### readings -/
variable {K : PySem.W.Frag} {W : WX} {σ : L2.St} {H : Hp} {Q : VK}
abbrev same {α : Type} : ∀ (x : Xn) (s : Sto) (c' : Cf) (H' : Hp), WW K cA W σ x s c' H' → WW K cA W σ x s c' H' := fun _ _ _ _ z => z
theorem tE_at {m : E} {c : Cf} {e : Env} {s s1 : Sto} {d : D} {A : Sto → Cf → Hp → Prop} {Q : VK} (r : Rep K cA c H s) (re : RelE K c e σ) (q : ev P m e s = .ok d s1) (k : ∀ v H1 c1, Ext c H c1 H1 → Rep K cA c1 H1 s1 → RelE K c1 e σ → RepV K c1 d v → Q v H1) : tE K cA P W m σ H Q :=
  ⟨c, e, s, r, re, by rw [q]; exact fun c1 H1 x1 r1 v hv => k v H1 c1 x1 r1 (re.mono x1) hv⟩
theorem rd_bin {op : Bop} {fl : Bool} {a b : E} (h : tE K cA P W (.bin op fl a b) σ H Q) : tOp (rB K cA (binop op fl)) (tE K cA P W a) (tE K cA P W b) σ H Q := by
  obtain ⟨c, e, s, r, re, h⟩ := h
  simp only [ev] at h
  refine (sub_e r re h fun _ _ _ _ z => z).mono fun x H1 ⟨c1, d1, s1, x1, r1, re1, v1, h1⟩ => (sub_e r1 re1 h1 fun _ _ _ _ z => z).mono fun y H2 ⟨c2, d2, s2, x2, r2, re2, v2, h2⟩ => ?_
  exact ⟨c2, d1, d2, s2, _, r2, v1.mono x2, v2, h2⟩
theorem rd_cmp {op : Cop} {a b : E} (h : tE K cA P W (.cmp op a b) σ H Q) : tOp (rB K cA (cmpop op)) (tE K cA P W a) (tE K cA P W b) σ H Q := by
  obtain ⟨c, e, s, r, re, h⟩ := h
  simp only [ev] at h
  refine (sub_e r re h fun _ _ _ _ z => z).mono fun x H1 ⟨c1, d1, s1, x1, r1, re1, v1, h1⟩ => (sub_e r1 re1 h1 fun _ _ _ _ z => z).mono fun y H2 ⟨c2, d2, s2, x2, r2, re2, v2, h2⟩ => ?_
  exact ⟨c2, d1, d2, s2, _, r2, v1.mono x2, v2, h2⟩
theorem rd_ix {a b : E} (h : tE K cA P W (.ix a b) σ H Q) : tOp (rB K cA ixop) (tE K cA P W a) (tE K cA P W b) σ H Q := by
  obtain ⟨c, e, s, r, re, h⟩ := h
  simp only [ev] at h
  refine (sub_e r re h fun _ _ _ _ z => z).mono fun x H1 ⟨c1, d1, s1, x1, r1, re1, v1, h1⟩ => (sub_e r1 re1 h1 fun _ _ _ _ z => z).mono fun y H2 ⟨c2, d2, s2, x2, r2, re2, v2, h2⟩ => ?_
  exact ⟨c2, d1, d2, s2, _, r2, v1.mono x2, v2, h2⟩
theorem rd_chn {o1 o2 : Cop} {a b m : E} (h : tE K cA P W (.chn o1 o2 a b m) σ H Q) : tChain (rB K cA (cmpop o1)) (rB K cA (cmpop o2)) (tE K cA P W a) (tE K cA P W b) (tE K cA P W m) σ H Q := by
  obtain ⟨c, e, s, r, re, h⟩ := h
  simp only [ev] at h
  refine (sub_e r re h fun _ _ _ _ z => z).mono fun x H1 ⟨c1, d1, s1, x1, r1, re1, v1, h1⟩ => (sub_e r1 re1 h1 fun _ _ _ _ z => z).mono fun y H2 ⟨c2, d2, s2, x2, r2, re2, v2, h2⟩ => ?_
  refine ⟨c2, d1, d2, s2, _, r2, v1.mono x2, v2, h2.bind.imp (fun z s3 c3 H3 x3 r3 h3 v hv => ?_) fun _ _ _ _ _ _ z => z⟩
  obtain ⟨k, e1, h3⟩ := h3.rOr
  refine ⟨k, dBool_v e1 hv, ?_⟩
  cases k with
  | false =>
    rw [if_neg Bool.false_ne_true] at h3 ⊢
    exact h3.ok r3 _ ok_bl
  | true =>
    rw [if_pos rfl] at h3 ⊢
    refine (sub_e r3 (re2.mono x3) h3 fun _ _ _ _ z => z).mono fun y4 H4 ⟨c4, d4, s4, x4, r4, re4, v4, h4⟩ => ?_
    exact ⟨c4, d2, d4, s4, _, r4, v2.mono (x3.trans x4), v4, h4⟩
theorem rd_an {a b : E} (h : tE K cA P W (.an a b) σ H Q) : tAndV (tE K cA P W a) (tE K cA P W b) σ H Q := by
  obtain ⟨c, e, s, r, re, h⟩ := h
  simp only [ev] at h
  refine (sub_e r re h fun _ _ _ _ z => z).mono fun x H1 ⟨c1, d1, s1, x1, r1, re1, v1, h1⟩ => ?_
  obtain ⟨k, e1, h2⟩ := h1.rOr
  refine ⟨k, dBool_v e1 v1, ?_⟩
  cases k with
  | false =>
    rw [if_neg Bool.false_ne_true] at h2 ⊢
    exact h2.ok r1 _ ok_bl
  | true =>
    rw [if_pos rfl] at h2 ⊢
    exact ⟨c1, e, s1, r1, re1, h2⟩
theorem rd_orr {a b : E} (h : tE K cA P W (.orr a b) σ H Q) : tOrV (tE K cA P W a) (tE K cA P W b) σ H Q := by
  obtain ⟨c, e, s, r, re, h⟩ := h
  simp only [ev] at h
  refine (sub_e r re h fun _ _ _ _ z => z).mono fun x H1 ⟨c1, d1, s1, x1, r1, re1, v1, h1⟩ => ?_
  obtain ⟨k, e1, h2⟩ := h1.rOr
  refine ⟨k, dBool_v e1 v1, ?_⟩
  cases k with
  | false =>
    rw [if_neg Bool.false_ne_true] at h2 ⊢
    exact ⟨c1, e, s1, r1, re1, h2⟩
  | true =>
    rw [if_pos rfl] at h2 ⊢
    exact h2.ok r1 _ ok_bl
/-- what a test of a asks -/
theorem sub_t {β : Type} {m : E} {c : Cf} {s : Sto} {e : Env} {f : Bool → Sto → R β} {A : β → Sto → Cf → Hp → Prop} {W' : Xn → Sto → Cf → Hp → Prop} (r : Rep K cA c H s) (re : RelE K c e σ) (h : Post K cA c H ((ev P m e s).bind fun x s1 => rOr (dBool x) fun b => f b s1) A W') (hw : ∀ x s c' H', W' x s c' H' → WW K cA W σ x s c' H') :
    tT K cA P W m σ H (fun b H' => ∃ c' s', Ext c H c' H' ∧ Rep K cA c' H' s' ∧ RelE K c' e σ ∧ Post K cA c' H' (f b s') A W') :=
  ⟨c, e, s, r, re, h.bind.imp (fun d s' c' H' x q z => by
    obtain ⟨k, e1, z⟩ := z.rOr
    exact ⟨k, e1, c', s', x, q, re.mono x, z⟩) fun _ _ _ _ _ _ z => hw _ _ _ _ z⟩
theorem rd_ife {t a b : E} (h : tE K cA P W (.ife t a b) σ H Q) : tIf (tT K cA P W t) (tE K cA P W a) (tE K cA P W b) σ H Q := by
  obtain ⟨c, e, s, r, re, h⟩ := h
  simp only [ev] at h
  refine (sub_t r re h fun _ _ _ _ z => z).mono fun k H1 ⟨c1, s1, x1, r1, re1, h1⟩ => ?_
  cases k with
  | false =>
    rw [if_neg Bool.false_ne_true] at h1 ⊢
    exact ⟨c1, e, s1, r1, re1, h1⟩
  | true =>
    rw [if_pos rfl] at h1 ⊢
    exact ⟨c1, e, s1, r1, re1, h1⟩
theorem rd_neg {a : E} (h : tE K cA P W (.neg a) σ H Q) : tUn (rU fun i => .int (-i)) (tE K cA P W a) σ H Q := by
  obtain ⟨c, e, s, r, re, h⟩ := h
  simp only [ev] at h
  refine (sub_e r re h fun _ _ _ _ z => z).mono fun x H1 ⟨c1, d1, s1, x1, r1, re1, v1, h1⟩ => ?_
  obtain ⟨i, e1, h1⟩ := h1.rOr
  exact ⟨i, dInt_v e1 v1, h1.ok r1 _ ok_int⟩
theorem rd_nt {a : E} (h : tE K cA P W (.nt a) σ H Q) : tNotV (tE K cA P W a) σ H Q := by
  obtain ⟨c, e, s, r, re, h⟩ := h
  simp only [ev] at h
  refine (sub_e r re h fun _ _ _ _ z => z).mono fun x H1 ⟨c1, d1, s1, x1, r1, re1, v1, h1⟩ => ?_
  obtain ⟨i, e1, h1⟩ := h1.rOr
  exact ⟨i, dBool_v e1 v1, h1.ok r1 _ ok_bl⟩
theorem rd_tup {es : Es} (h : tE K cA P W (.tup es) σ H Q) : tTup (tA K cA P W es) σ H Q := by
  obtain ⟨c, e, s, r, re, h⟩ := h
  simp only [ev] at h
  refine (sub_a r re h fun _ _ _ _ z => z).mono fun vs H1 ⟨c1, d1, s1, x1, r1, re1, v1, h1⟩ => ?_
  obtain ⟨l, k⟩ := mkT_new r1 v1 h1
  exact ⟨lim_le l, k⟩
theorem rd_lst {fl : Bool} {es : Es} (h : tE K cA P W (.lst fl es) σ H Q) : tLst (tA K cA P W es) σ H Q := by
  obtain ⟨c, e, s, r, re, h⟩ := h
  simp only [ev] at h
  refine (sub_a r re h fun _ _ _ _ z => z).mono fun vs H1 ⟨c1, d1, s1, x1, r1, re1, v1, h1⟩ => ?_
  obtain ⟨l, k⟩ := mkL_new r1 v1 h1
  exact ⟨lim_le l, k⟩
theorem rd_sl {fl : Bool} {a : E} {lo hi : Eo} (h : tE K cA P W (.sl fl a lo hi) σ H Q) : tSl (rSlop K cA fl) (tE K cA P W a) (tO K cA P W lo) (tO K cA P W hi) σ H Q := by
  obtain ⟨c, e, s, r, re, h⟩ := h
  simp only [ev] at h
  refine (sub_e r re h fun _ _ _ _ z => z).mono fun x H1 ⟨c1, d1, s1, x1, r1, re1, v1, h1⟩ => (sub_o r1 re1 h1 fun _ _ _ _ z => z).mono fun l H2 ⟨c2, s2, x2, r2, re2, h2⟩ => (sub_o r2 re2 h2 fun _ _ _ _ z => z).mono fun u H3 ⟨c3, s3, x3, r3, re3, h3⟩ => ?_
  exact ⟨c3, d1, s3, _, r3, v1.mono (x2.trans x3), h3⟩
theorem rd_rev {fl : Bool} {a : E} (h : tE K cA P W (.rev fl a) σ H Q) : tRevL K (tE K cA P W a) σ H Q := by
  obtain ⟨c, e, s, r, re, h⟩ := h
  simp only [ev] at h
  refine (sub_e r re h fun _ _ _ _ z => z).mono fun x H1 ⟨c1, d1, s1, x1, r1, re1, v1, h1⟩ => ?_
  exact revop_ok r1 v1 h1
theorem rd_call {f n : Nat} {es : Es} (hn : ∀ {c : Cf} {H : Hp} {e : Env} {s : Sto} {A : List D → Sto → Cf → Hp → Prop} {W : Xn → Sto → Cf → Hp → Prop}, Post K cA c H (evs P es e s) A W → Post K cA c H (evs P es e s) (fun ds s' c' H' => ds.length = n ∧ A ds s' c' H') W) (h : tE K cA P W (.call f es) σ H Q) : tCallS (spF K cA P f n) (fun σ => WE W σ) (tA K cA P W es) σ H Q := by
  obtain ⟨c, e, s, r, re, h⟩ := h
  simp only [ev] at h
  refine ⟨c, e, s, r, re, (hn h.bind).imp (fun ds s1 c1 H1 x1 r1 z vs hv => ?_) fun _ _ _ _ _ _ z => z⟩
  exact ⟨c1, ds, s1, r1, hv, z.1, z.2⟩
theorem rd_bi {b : Bi} {fl : Bool} {a : E} (h : tE K cA P W (.bi b fl a) σ H Q) : tCB (rU1 K cA (biop b fl)) (tCons (tE K cA P W a) tNil) σ H Q := by
  obtain ⟨c, e, s, r, re, h⟩ := h
  simp only [ev] at h
  refine (sub_e r re h fun _ _ _ _ z => z).mono fun x H1 ⟨c1, d1, s1, x1, r1, re1, v1, h1⟩ => ?_
  exact ⟨x, c1, d1, s1, _, rfl, r1, v1, h1⟩
theorem rd_app {a x : E} (h : tE K cA P W (.app a x) σ H Q) : tBM K "list" (rApp K cA) (tE K cA P W a) (tCons (tE K cA P W x) tNil) σ H Q := by
  obtain ⟨c, e, s, r, re, h⟩ := h
  simp only [ev] at h
  refine (sub_e r re h fun _ _ _ _ z => z).mono fun l H1 ⟨c1, d1, s1, x1, r1, re1, v1, h1⟩ => ?_
  obtain ⟨xs, e1, h1⟩ := h1.rOr
  obtain ⟨p, vs, rfl, g1, g2⟩ := r1.asL e1 v1
  exact ⟨Or.inl ⟨rfl, vs, SqL.of g1⟩, (sub_e r1 re1 h1 fun _ _ _ _ z => z).mono fun y H2 ⟨c2, d2, s2, x2, r2, re2, v2, h2⟩ => ⟨y, c2, d1, d2, s2, _, rfl, r2, v1.mono x2, v2, h2⟩⟩
theorem rd_ins {a i x : E} (h : tE K cA P W (.ins a i x) σ H Q) : tBM K "list" (rIns K cA) (tE K cA P W a) (tCons (tE K cA P W i) (tCons (tE K cA P W x) tNil)) σ H Q := by
  obtain ⟨c, e, s, r, re, h⟩ := h
  simp only [ev] at h
  refine (sub_e r re h fun _ _ _ _ z => z).mono fun l H1 ⟨c1, d1, s1, x1, r1, re1, v1, h1⟩ => ?_
  obtain ⟨xs, e1, h1⟩ := h1.rOr
  obtain ⟨p, vs, rfl, g1, g2⟩ := r1.asL e1 v1
  exact ⟨Or.inl ⟨rfl, vs, SqL.of g1⟩, (sub_e r1 re1 h1 fun _ _ _ _ z => z).mono fun j H2 ⟨c2, d2, s2, x2, r2, re2, v2, h2⟩ => (sub_e r2 re2 h2 fun _ _ _ _ z => z).mono fun y H3 ⟨c3, d3, s3, x3, r3, re3, v3, h3⟩ =>
    ⟨j, y, c3, d1, d2, d3, s3, _, rfl, r3, v1.mono (x2.trans x3), v2.mono x3, v3, h3⟩⟩
def rIsiG (K : PySem.W.Frag) (cA : Nat → Addr) (t : Ty) : List V → Hp → VK → Prop := fun xs H Q => ∃ x c d s W, xs = [x, .ty (tyName t)] ∧ Rep K cA c H s ∧ RepV K c d x ∧ Post K cA c H (isiop s d t) (okQ K Q) W
theorem ob_isi {X : Cx} {t : Ty} (ht : ∀ k, t ≠ .own k) : CallR X (.builtin "isinstance") (rIsiG X.K cA t) := by
  refine CallR.imp call_isi ?_
  rintro _ H Q ⟨x, c, d, s, W, rfl, r, h1, h⟩
  have h' : Post X.K cA c H (bR (isiB s d t) s) (okQ X.K Q) W := by
    cases t with
    | own k => exact (ht k rfl).elim
    | _ => exact h
  obtain ⟨b, e, h'⟩ := h'.bR
  obtain ⟨u, g1, g2⟩ := tyx_of r h1 ht e
  exact ⟨x, .ty (tyName t), .type u, .type (tyName t), b, rfl, .ty _, g1, kit_ty g2, h'.ok r _ ok_bl⟩
theorem rd_isi {t : Ty} {a : E} (h : tE K cA P W (.isi a t) σ H Q) : tCB (rIsiG K cA t) (tCons (tE K cA P W a) (tCons (tC (.ty (tyName t))) tNil)) σ H Q := by
  obtain ⟨c, e, s, r, re, h⟩ := h
  simp only [ev] at h
  refine (sub_e r re h fun _ _ _ _ z => z).mono fun x H1 ⟨c1, d1, s1, x1, r1, re1, v1, h1⟩ => ?_
  exact ⟨x, c1, d1, s1, _, rfl, r1, v1, h1⟩
def tyV (cA : Nat → Addr) : Option Nat → V
  | none => .ty "ValueError"
  | some k => .ref (cA k)
def tyW (cA : Nat → Addr) : Option Nat → Value
  | none => .type "ValueError"
  | some k => .ref (cA k)
theorem ty_cls (cA : Nat → Addr) (k : Option Nat) : ClsV (tyV cA k) (tyW cA k) := by
  cases k with
  | none => exact .ty _
  | some k => exact .own _
def rIsxG (K : PySem.W.Frag) (cA : Nat → Addr) (sb : Nat → Nat → Option Bool) (k : Option Nat) : List V → Hp → VK → Prop := fun xs H Q => ∃ x c d s W, xs = [x, tyV cA k] ∧ Rep K cA c H s ∧ RepV K c d x ∧ Post K cA c H (bR (isiX sb s d k) s) (okQ K Q) W
theorem ob_isx {X : Cx} {exs : List (Str × Bool)} {sb : Nat → Nat → Option Bool} {k : Option Nat} (F : ExF X.K X.mg cA exs sb) : CallR X (.builtin "isinstance") (rIsxG X.K cA sb k) := by
  refine CallR.imp (CallR.or call_isi call_isX) ?_
  rintro _ H Q ⟨x, c, d, s, W, rfl, r, h1, h⟩
  obtain ⟨b, e, h⟩ := h.bR
  have q := h.ok r _ ok_bl
  unfold isiX at e
  split at e
  · cases h1
    cases z : sb _ _ with
    | none => rw [z] at e; cases e
    | some b' =>
      rw [z] at e
      cases e
      exact .inl ⟨.non, _, .type "NoneType", _, false, rfl, ty_cls cA (some _), .base .non, (F.nn _ _ z).1, q⟩
  · cases h1
    cases e
    exact .inl ⟨.non, _, .type "NoneType", _, false, rfl, ty_cls cA none, .base .non, kit_ty (by decide +kernel), q⟩
  · split at e
    · rename_i n k c' pl ec
      obtain ⟨a, u, rfl, e2, e3, e4, e5, dd, rfl, e7⟩ := r.at ec h1
      obtain ⟨f1, f2, f3⟩ := F.ea _ _ _ e
      refine .inr ⟨a, cA c', dd, _, _, b, rfl, e4, fun b' z => ?_, f1, ty_cls cA (some _), f3, q⟩
      cases pl with
      | none =>
        have e7 : dd = none := e7
        rw [e7] at z
        cases z
      | some p =>
        obtain ⟨b2, v, k1, k2, k3⟩ := e7
        rw [z] at k1
        cases k1
        exact ⟨_, r.sub _ _ k2⟩
    · cases e
  · split at e
    · rename_i n c' pl ec
      obtain ⟨a, u, rfl, e2, e3, e4, e5, dd, rfl, e7⟩ := r.at ec h1
      cases z : sb c' c' with
      | none => rw [z] at e; cases e
      | some b' =>
        rw [z] at e
        cases e
        obtain ⟨f1, f2, f3⟩ := F.ea _ _ _ z
        refine .inr ⟨a, cA c', dd, _, _, true, rfl, e4, fun b' z => ?_, f1, ty_cls cA none, (F.nn _ _ z).2, q⟩
        cases pl with
        | none =>
          have e7 : dd = none := e7
          rw [e7] at z
          cases z
        | some p =>
          obtain ⟨b2, v, k1, k2, k3⟩ := e7
          rw [z] at k1
          cases k1
          exact ⟨_, r.sub _ _ k2⟩
    · cases e
  · cases e
theorem rd_isx {k : Option Nat} {a : E} (h : tE K cA P W (.isx a k) σ H Q) : tCB (rIsxG K cA P.sb k) (tCons (tE K cA P W a) (tCons (tC (tyV cA k)) tNil)) σ H Q := by
  obtain ⟨c, e, s, r, re, h⟩ := h
  simp only [ev] at h
  refine (sub_e r re h fun _ _ _ _ z => z).mono fun x H1 ⟨c1, d1, s1, x1, r1, re1, v1, h1⟩ => ?_
  exact ⟨x, c1, d1, s1, _, rfl, r1, v1, h1⟩
theorem rd_fld {f : Str} {a : E} {exs : List (Str × Bool)} {mg : Str → Option Value} (F : ExF K mg cA exs P.sb) (h : tE K cA P W (.fld a f) σ H Q) : tXg K f (tE K cA P W a) σ H Q := by
  obtain ⟨c, e, s, r, re, h⟩ := h
  simp only [ev] at h
  refine (sub_e r re h fun _ _ _ _ z => z).mono fun x H1 ⟨c1, d1, s1, x1, r1, re1, v1, h1⟩ => ?_
  unfold fldop at h1
  split at h1
  · split at h1
    · rename_i c' d ec
      obtain ⟨⟨hf, hs⟩, h2⟩ := h1.if_
      obtain ⟨b', ez⟩ := Option.isSome_iff_exists.mp hs
      obtain ⟨f1, _⟩ := F.ea _ _ _ ez
      obtain ⟨a', u, rfl, e2, e3, e4, e5, dd, rfl, b, v, rfl, k2, k3⟩ := r1.at ec v1
      subst hf
      exact ⟨a', cA c', b, _, v, rfl, e4, r1.sub _ _ k2, f1.xf, f1.nw, rfl, h2.ok r1 _ k3⟩
    · exact h1.elim
  · exact h1.elim
theorem rd_frz {a : E} (h : tE K cA P W (.frz a) σ H Q) : tE K cA P W a σ H Q := by
  obtain ⟨c, e, s, r, re, h⟩ := h
  simp only [ev] at h
  refine ⟨c, e, s, r, re, h.bind.imp (fun d s1 c1 H1 x1 r1 z v hv => ?_) fun _ _ _ _ _ _ z => z⟩
  obtain ⟨q, e1, z⟩ := z.rOr
  obtain ⟨c2, f1, f2⟩ := frz_ok 8 e1 r1 hv
  exact z c2 H1 f1.e f1.r v f2
/-! ### comprehensions -/
theorem noX_post {α : Type} {c : Cf} {H : Hp} {r : R α} {A : α → Sto → Cf → Hp → Prop} {W : Xn → Sto → Cf → Hp → Prop} (h : Post K cA c H (noX r) A W) : ∀ W', Post K cA c H r A W' := by
  intro W'
  cases r with
  | ok a s => exact h
  | exc x s => exact h.elim
  | bad => exact h.elim
/-- a list that stands apart is written -/
theorem Rep.side {c : Cf} {s : Sto} (r : Rep K cA c H s) {D : Addr} {u : HO} (h1 : c.F D = none) (h2 : D ∉ c.ι) : Rep K cA c (upd H D u) s := by
  refine ⟨fun a o q => ?_, r.len, r.nd, fun a m => ?_, fun n x a g1 g2 => ?_⟩
  · rw [upd_ne (ne_of_none q h1)]
    exact r.sub a o q
  · have ne : a ≠ D := fun z => h2 (by rw [← z]; exact m)
    rw [upd_ne ne]
    exact r.dom a m
  · obtain ⟨k1, u', k2, k3⟩ := r.cell n x a g1 g2
    refine ⟨k1, u', ?_, k3⟩
    rw [upd_ne (fun z => h2 (by rw [← z]; exact List.mem_of_getElem? g2))]
    exact k2
theorem Ext.side {c c1 : Cf} {H1 : Hp} (x : Ext c1 H1 c H) {D : Addr} {u : HO} (h : H1 D = none) : Ext c1 H1 c (upd H D u) :=
  ⟨x.f, x.i, fun a o g1 g2 g3 => by
    obtain ⟨k1, k2, k3⟩ := x.k a o g1 g2 g3
    refine ⟨?_, k2, k3⟩
    rw [upd_ne (ne_of_none g1 h)]
    exact k1⟩
/-- .. and taken in -/
theorem mkL_adopt {c c1 : Cf} {H1 : Hp} {s : Sto} {fl : Bool} {xs : List D} {vs : List V} {D : Addr} {W : Xn → Sto → Cf → Hp → Prop} (x : Ext c1 H1 c H) (r : Rep K cA c H s) (hD : H D = some (.lst vs)) (hF : c.F D = none) (hi : D ∉ c.ι) (h0 : H1 D = none) (hv : RepVs K c xs vs) (h : Post K cA c1 H1 (mkL fl xs s) (okQ K Q) W) : Q (.ref D) H := by
  unfold mkL at h
  obtain ⟨hl, h⟩ := h.if_
  have cellC : Post K cA c1 H1 (.ok (.o s.length) (s ++ [some (.lst xs)])) (okQ K Q) W → Q (.ref D) H := fun h => by
    have hv2 : RepVs K ⟨c.F, c.ι ++ [D]⟩ xs vs := RepVs.mono (c := c) (c' := ⟨c.F, c.ι ++ [D]⟩) (H := fun _ => none) (H' := H) ⟨Same.refl _, List.prefix_append _ _, fun a o z => by cases z⟩ hv
    refine h ⟨c.F, c.ι ++ [D]⟩ _ (x.adC h0) (r.adC hD hF hi ⟨vs, rfl, hv2⟩) (.ref D) ⟨D, ?_, rfl⟩
    show (c.ι ++ [D])[s.length]? = some D
    rw [List.getElem?_append_right (by rw [r.len]; exact Nat.le_refl _), r.len, Nat.sub_self]
    rfl
  cases fl with
  | true => exact cellC h
  | false =>
    cases e : allP xs with
    | none =>
      rw [e] at h
      exact cellC h
    | some ds =>
      rw [e] at h
      have ex := allP_some e
      subst ex
      have hv2 : RepVs K ⟨upd c.F D (.lst vs), c.ι⟩ (ds.map .p) vs := RepVs.mono (c := c) (c' := ⟨upd c.F D (.lst vs), c.ι⟩) (H := fun _ => none) (H' := H) ⟨fun a o q => by
        show upd c.F D (.lst vs) a = some o
        rw [upd_ne (ne_of_none q hF)]
        exact q, List.prefix_refl _, fun a o z => by cases z⟩ hv
      exact h ⟨upd c.F D (.lst vs), c.ι⟩ _ (x.adF hF h0) (r.adF hD hF hi) (.ref D) (.lst upd_same (dqAll_of hv2))
/-- how long a list the loop makes -/
theorem lcL_len {f : Item → Sto → R (Option D)} : ∀ {xs : List Item} {s s' : Sto} {ys : List D}, lcL f xs s = .ok ys s' → ys.length ≤ xs.length
  | [], s, s', ys, h => by
    cases h
    exact Nat.le_refl _
  | x :: xs, s, s', ys, h => by
    simp only [lcL] at h
    cases e : f x s with
    | bad => rw [e] at h; cases h
    | exc y s1 => rw [e] at h; cases h
    | ok a s1 =>
      rw [e] at h
      simp only [R.bind_ok] at h
      cases e2 : lcL f xs s1 with
      | bad => rw [e2] at h; cases h
      | exc y s1 => rw [e2] at h; cases h
      | ok b s2 =>
        rw [e2] at h
        simp only [R.bind_ok] at h
        have := lcL_len e2
        cases h
        cases a with
        | none => exact Nat.le_succ_of_le this
        | some y => simpa using this
theorem wipe_wipe (σ : L2.St) (vs : List Nat) : wipe (wipe σ vs) vs = wipe σ vs := by
  apply List.ext_getElem?
  intro j
  rw [wipe_get, wipe_get, wipe_length]
  by_cases m : j ∈ vs
  · simp [m]
  · simp [m]
/-- the state of such a loop: D the list so far, apart -/
def LcW (K : PySem.W.Frag) (cA : Nat → Addr) (n : Nat) (c1 : Cf) (H1 : Hp) (D : Addr) (rest : Nat → List G.D → Sto → Prop) (i m : Nat) (H : Hp) : Prop := m = n - i ∧ i ≤ n ∧ ∃ (c : Cf) (s : Sto) (acc : List V) (dacc : List G.D), Ext c1 H1 c H ∧ Rep K cA c H s ∧ H D = some (.lst acc) ∧ c.F D = none ∧ D ∉ c.ι ∧ RepVs K c dacc acc ∧ dacc.length ≤ i ∧ rest i dacc s
theorem rd_lc {fl : Bool} {el : E} {ow : List Nat} {tg : Tg} {it : It} {q : Eo} (hs : ∀ i ∈ tgS tg, i ∈ ow) (h : tE K cA P W (.lc fl el ow tg it q) σ H Q) :
    tLc (tI K cA P W it) (tG K cA tg) (tC1 K cA P (fun _ _ _ _ => False) q) (tE K cA P (fun _ _ _ _ => False) el) ow σ H Q := by
  obtain ⟨c, e, s, r, re, h⟩ := h
  simp only [ev] at h
  refine (sub_i r re h fun _ _ _ _ z => z).mono fun J H1 ⟨c1, items, s1, x1, r1, re1, j1, h1⟩ => ?_
  intro D hD
  obtain ⟨f1, f2⟩ := r1.fresh hD
  by_cases lim : items.length ≤ LIM
  case neg => rw [if_pos lim] at h1; exact h1.elim
  rw [if_neg (fun z => z lim)] at h1
  refine ⟨LcW K cA items.length c1 H1 D fun i dacc s => Post K cA c1 H1 ((lcL (fun x s2 => noX (rOr (bindT tg x s2 (wipeE e ow)) fun e2 => (evc P q e2 s2).bind fun k s3 => if k = true then (ev P el e2 s3).bind fun y s4 => .ok (some y) s4 else .ok none s3)) (items.drop i) s).bind fun ys s2 => mkL fl (dacc ++ ys) s2) (okQ K Q) (WW K cA W σ), ⟨items.length, rfl, Nat.zero_le _, c1, s1, [], [], Ext.grow hD, r1.grow hD, upd_same, f1, f2, .nil, Nat.le_refl _, h1⟩, ?_⟩
  rintro i m H3 ⟨rfl, hi, c3, s3, acc, dacc, x3, r3, d3, g1, g2, hv, hl, h3⟩
  obtain ⟨j2, j3, j4⟩ := j1 c3 H3 s3 x3.f r3 i
  by_cases hlt : i < items.length
  · refine .inr ⟨j2 hlt, LcW K cA items.length c1 H1 D (fun i dacc s => Post K cA c1 H1 ((lcL (fun x s2 => noX (rOr (bindT tg x s2 (wipeE e ow)) fun e2 => (evc P q e2 s2).bind fun k s3 => if k = true then (ev P el e2 s3).bind fun y s4 => .ok (some y) s4 else .ok none s3)) (items.drop i) s).bind fun ys s2 => mkL fl (dacc ++ ys) s2) (okQ K Q) (WW K cA W σ)) (i + 1) (items.length - (i + 1)), fun H' z => ⟨_, by omega, z⟩, fun v H' hy => ?_⟩
    rw [List.drop_eq_getElem_cons hlt] at h3
    simp only [lcL, R.bind_assoc] at h3
    obtain ⟨c4, x4, r4, v4⟩ := j3 items[i] (List.getElem?_eq_getElem hlt) v H' hy
    have hf := noX_post h3.bind0 (fun _ _ _ _ => False)
    obtain ⟨e2, eb, hf⟩ := hf.rOr
    refine ⟨c4, wipeE e ow, s3, items[i], r4, RelE.wipe (re1.mono (x3.trans x4)) ow, v4, e2, eb, fun σ2 re2 wp => ⟨(wp ow hs).trans (wipe_wipe σ ow), ?_⟩⟩
    refine ⟨c4, e2, s3, r4, re2, (hf.bind0.mono (x3.trans x4)).imp (fun b s5 c5 H5 x5 r5 z => ?_) fun _ _ _ _ _ _ z => z.elim⟩
    have x5' := x3.trans (x4.trans x5)
    cases b with
    | false =>
      rw [if_neg Bool.false_ne_true] at z
      refine iteF ?_
      obtain ⟨k1, k2, k3⟩ := (x4.trans x5).k D _ d3 g1 g2
      have h5 := z c5 H5 x5' r5
      exact ⟨rfl, hlt, c5, s5, acc, dacc, x5', r5, k1, k2, k3, hv.mono (x4.trans x5), Nat.le_succ_of_le hl, h5⟩
    | true =>
      rw [if_pos rfl] at z
      refine iteT ?_
      refine ⟨c5, e2, s5, r5, re2.mono x5, (z.bind0.mono x5').imp (fun d s6 c6 H6 x6 r6 z6 y hy => ?_) fun _ _ _ _ _ _ z => z.elim⟩
      have x6' := x5'.trans x6
      obtain ⟨k1, k2, k3⟩ := (x4.trans (x5.trans x6)).k D _ d3 g1 g2
      have h6 := z6 c6 H6 x6' r6
      refine ⟨acc, k1, ?_, rfl, hlt, c6, s6, acc ++ [y], dacc ++ [d], x6'.side hD, r6.side k2 k3, upd_same, k2, k3, repVs_append (hv.mono (x4.trans (x5.trans x6))) (.cons hy .nil), ?_, ?_⟩
      · rw [← Paired.length hv]
        exact lim_lt (by omega)
      · rw [List.length_append, List.length_singleton]
        omega
      · have e3 : ∀ ys : List G.D, (dacc ++ [d]) ++ ys = dacc ++ (d :: ys) := fun ys => by simp
        simp only [e3]
        exact h6
  · have ei : i = items.length := by omega
    subst ei
    rw [List.drop_length] at h3
    have h4 : Post K cA c1 H1 (mkL fl (dacc ++ []) s3) (okQ K Q) (WW K cA W σ) := h3
    rw [List.append_nil] at h4
    exact .inl ⟨j4 rfl, mkL_adopt x3 r3 d3 g1 g2 hD hv h4⟩
/-! ### two loops -/
def LcX (K : PySem.W.Frag) (cA : Nat → Addr) (n : Nat) (b : Nat → Nat) (c1 : Cf) (H1 : Hp) (D : Addr) (rest : Nat → List G.D → Sto → Cf → Prop) (i m : Nat) (H : Hp) : Prop := m = n - i ∧ i ≤ n ∧ ∃ (c : Cf) (s : Sto) (acc : List V) (dacc : List G.D), Ext c1 H1 c H ∧ Rep K cA c H s ∧ H D = some (.lst acc) ∧ c.F D = none ∧ D ∉ c.ι ∧ RepVs K c dacc acc ∧ dacc.length ≤ b i ∧ rest i dacc s c
theorem rd_lc2 {fl : Bool} {el : E} {ow ow2 : List Nat} {tg tg2 : Tg} {it it2 : It} {q : Eo} (hs : ∀ i ∈ tgS tg, i ∈ ow) (hs2 : ∀ i ∈ tgS tg2, i ∈ ow2) (h : tE K cA P W (.lc2 fl el ow tg it tg2 it2 ow2 q) σ H Q) :
    tLc2 (tI K cA P W it) (tG K cA tg) (tC1 K cA P (fun _ _ _ _ => False) .no) (tI K cA P (fun _ _ _ _ => False) it2) (tG K cA tg2) (tC1 K cA P (fun _ _ _ _ => False) q) (tE K cA P (fun _ _ _ _ => False) el) ow ow2 σ H Q := by
  obtain ⟨c, e, s, r, re, h⟩ := h
  simp only [ev] at h
  refine (sub_i r re h fun _ _ _ _ z => z).mono fun J H1 ⟨c1, items, s1, x1, r1, re1, j1, h1⟩ => ?_
  intro D hD
  obtain ⟨f1, f2⟩ := r1.fresh hD
  by_cases lim : items.length ≤ 1000
  case neg => rw [if_pos lim] at h1; exact h1.elim
  rw [if_neg (fun z => z lim)] at h1
  generalize hg : (fun (e2 : Env) (y : Item) (s4 : Sto) => noX (rOr (bindT tg2 y s4 (wipeE e2 ow2)) fun e3 => (evc P q e3 s4).bind fun k s5 => if k = true then (ev P el e3 s5).bind fun y s6 => .ok (some y) s6 else .ok none s5)) = g at h1
  have hg' : ∀ e2 y s4, g e2 y s4 = noX (rOr (bindT tg2 y s4 (wipeE e2 ow2)) fun e3 => (evc P q e3 s4).bind fun k s5 => if k = true then (ev P el e3 s5).bind fun y s6 => .ok (some y) s6 else .ok none s5) := fun e2 y s4 => by rw [← hg]
  have hg2 : ∀ e2, (fun (y : Item) (s4 : Sto) => noX (rOr (bindT tg2 y s4 (wipeE e2 ow2)) fun e3 => (evc P q e3 s4).bind fun k s5 => if k = true then (ev P el e3 s5).bind fun y s6 => .ok (some y) s6 else .ok none s5)) = g e2 := fun e2 => by
    funext y s4
    exact (hg' e2 y s4).symm
  simp only [hg2] at h1
  generalize hf : (fun (x : Item) (s2 : Sto) => noX (rOr (bindT tg x s2 (wipeE e ow)) fun e2 => (evi P it2 e2 s2).bind fun ys s3 => if ¬ ys.length ≤ 1000 then (.bad : R (List G.D)) else lcL (g e2) ys s3)) = f at h1
  have hf' : ∀ x s2, f x s2 = noX (rOr (bindT tg x s2 (wipeE e ow)) fun e2 => (evi P it2 e2 s2).bind fun ys s3 => if ¬ ys.length ≤ 1000 then (.bad : R (List G.D)) else lcL (g e2) ys s3) := fun x s2 => by rw [← hf]
  let rest : Nat → List G.D → Sto → Cf → Prop := fun i dacc s _ => Post K cA c1 H1 ((lcF f (items.drop i) s).bind fun ys s2 => mkL fl (dacc ++ ys) s2) (okQ K Q) (WW K cA W σ)
  refine ⟨LcX K cA items.length (fun i => i * 1000) c1 H1 D rest, ⟨items.length, rfl, Nat.zero_le _, c1, s1, [], [], Ext.grow hD, r1.grow hD, upd_same, f1, f2, .nil, Nat.le_refl _, h1⟩, ?_⟩
  rintro i m H3 ⟨rfl, hi, c3, s3, acc, dacc, x3, r3, d3, g1, g2, hv, hl, h3⟩
  obtain ⟨j2, j3, j4⟩ := j1 c3 H3 s3 x3.f r3 i
  have h3 : Post K cA c1 H1 ((lcF f (items.drop i) s3).bind fun ys s2 => mkL fl (dacc ++ ys) s2) (okQ K Q) (WW K cA W σ) := h3
  by_cases hlt : i < items.length
  · refine .inr ⟨j2 hlt, LcX K cA items.length (fun i => i * 1000) c1 H1 D rest (i + 1) (items.length - (i + 1)), fun H' z => ⟨_, by omega, z⟩, fun v H' hy => ?_⟩
    rw [List.drop_eq_getElem_cons hlt] at h3
    simp only [lcF, R.bind_assoc] at h3
    obtain ⟨c4, x4, r4, v4⟩ := j3 items[i] (List.getElem?_eq_getElem hlt) v H' hy
    have h3' := h3.bind0
    rw [hf'] at h3'
    have hq := noX_post h3' (fun _ _ _ _ => False)
    obtain ⟨e2, eb, hq⟩ := hq.rOr
    refine ⟨c4, wipeE e ow, s3, items[i], r4, RelE.wipe (re1.mono (x3.trans x4)) ow, v4, e2, eb, fun σ2 re2 wp => ⟨(wp ow hs).trans (wipe_wipe σ ow), ?_⟩⟩
    refine ⟨c4, e2, s3, r4, re2, fun c5 H5 x5 r5 => iteT ?_⟩
    have x5' := x3.trans (x4.trans x5)
    refine ⟨c5, e2, s3, r5, re2.mono x5, (hq.bind0.mono x5').imp (fun items1 s6 c6 H6 x6 r6 z J1 j1' => ?_) fun _ _ _ _ _ _ z => z.elim⟩
    have x6' := x5'.trans x6
    by_cases lim1 : items1.length ≤ 1000
    case neg => rw [if_pos lim1] at z; exact z.elim
    rw [if_neg (fun z => z lim1)] at z
    obtain ⟨k1, k2, k3⟩ := (x4.trans (x5.trans x6)).k D _ d3 g1 g2
    let A1 : List G.D → List G.D → Sto → Cf → Hp → Prop := fun dacc r s' _ _ => Post K cA c1 H1 ((lcF f (items.drop (i + 1)) s').bind fun ys s2 => mkL fl (dacc ++ (r ++ ys)) s2) (okQ K Q) (WW K cA W σ)
    let rest1 : Nat → List G.D → Sto → Cf → Prop := fun j dacc s c => Same c6.F c.F ∧ c6.ι <+: c.ι ∧ Post K cA c1 H1 (lcL (g e2) (items1.drop j) s) (A1 dacc) (fun _ _ _ _ => False)
    have z0 : rest1 0 dacc s6 c6 := by
      have z' : Post K cA c1 H1 (lcL (g e2) items1 s6) (A1 dacc) (fun _ _ _ _ => False) := z
      exact ⟨Same.refl _, List.prefix_refl _, z'⟩
    refine ⟨LcX K cA items1.length (fun j => i * 1000 + j) c1 H1 D rest1, ⟨items1.length, rfl, Nat.zero_le _, c6, s6, acc, dacc, x6', r6, k1, k2, k3, hv.mono (x4.trans (x5.trans x6)), hl, z0⟩, ?_⟩
    rintro j n H7 ⟨rfl, hj, c7, s7, acc7, dacc7, x7, r7, d7, g71, g72, hv7, hl7, sm7, pf7, h7⟩
    obtain ⟨q2, q3, q4⟩ := j1' c7 H7 s7 sm7 r7 j
    have h7 : Post K cA c1 H1 (lcL (g e2) (items1.drop j) s7) (A1 dacc7) (fun _ _ _ _ => False) := h7
    by_cases jlt : j < items1.length
    · refine .inr ⟨q2 jlt, LcX K cA items1.length (fun j => i * 1000 + j) c1 H1 D rest1 (j + 1) (items1.length - (j + 1)), fun H' z => ⟨_, by omega, z⟩, fun v1 H8 hy1 => ?_⟩
      obtain ⟨c8, x8, r8, v8⟩ := q3 items1[j] (List.getElem?_eq_getElem jlt) v1 H8 hy1
      rw [List.drop_eq_getElem_cons jlt] at h7
      simp only [lcL] at h7
      have h7' := h7.bind0
      rw [hg'] at h7'
      have hp := noX_post h7' (fun _ _ _ _ => False)
      obtain ⟨e3, eb3, hp⟩ := hp.rOr
      have re25 := re2.mono (x5.trans x6)
      have x18 := x7.trans x8
      -- the slots as they stand at this turn
      have x0 : Ext c6 (fun _ => none) c8 H8 := ⟨sm7.trans x8.f, pf7.trans x8.i, fun a o z => by cases z⟩
      have re28 : RelE K c8 (wipeE e2 ow2) (wipe σ2 ow2) := RelE.wipe (re25.mono x0) ow2
      refine ⟨c8, wipeE e2 ow2, s7, items1[j], r8, re28, v8, e3, eb3, fun σ3 re3 wp3 => ⟨(wp3 ow2 hs2).trans (wipe_wipe σ2 ow2), ?_⟩⟩
      refine ⟨c8, e3, s7, r8, re3, (hp.bind0.mono x18).imp (fun b s9 c9 H9 x9 r9 z => ?_) fun _ _ _ _ _ _ z => z.elim⟩
      have x9' := x18.trans x9
      have x79 := x8.trans x9
      cases b with
      | false =>
        rw [if_neg Bool.false_ne_true] at z
        refine iteF ?_
        obtain ⟨k1, k2, k3⟩ := x79.k D _ d7 g71 g72
        have h9 := z c9 H9 x9' r9
        refine ⟨rfl, jlt, c9, s9, acc7, dacc7, x9', r9, k1, k2, k3, hv7.mono x79, Nat.le_succ_of_le hl7, sm7.trans x79.f, pf7.trans x79.i, ?_⟩
        exact h9.bind0.imp (fun zs s10 c10 H10 x10 r10 y => y c10 H10 x10 r10) fun _ _ _ _ _ _ y => y
      | true =>
        rw [if_pos rfl] at z
        refine iteT ?_
        refine ⟨c9, e3, s9, r9, re3.mono x9, (z.bind0.mono x9').imp (fun d s10 c10 H10 x10 r10 z10 y hy => ?_) fun _ _ _ _ _ _ z => z.elim⟩
        have x10' := x9'.trans x10
        have x7a := x79.trans x10
        obtain ⟨k1, k2, k3⟩ := x7a.k D _ d7 g71 g72
        have h10 := z10 c10 H10 x10' r10
        have hl7' : dacc7.length ≤ i * 1000 + j := hl7
        refine ⟨acc7, k1, ?_, rfl, jlt, c10, s10, acc7 ++ [y], dacc7 ++ [d], x10'.side hD, r10.side k2 k3, upd_same, k2, k3, repVs_append (hv7.mono x7a) (.cons hy .nil), ?_, sm7.trans x7a.f, pf7.trans x7a.i, ?_⟩
        · rw [← Paired.length hv7]
          have : LIM = 1000000 := rfl
          exact lim_lt (by omega)
        · show (dacc7 ++ [d]).length ≤ i * 1000 + (j + 1)
          rw [List.length_append, List.length_singleton]
          omega
        · have e3 : ∀ (zs ys : List G.D), (dacc7 ++ [d]) ++ (zs ++ ys) = dacc7 ++ ((d :: zs) ++ ys) := fun zs ys => by simp
          refine h10.bind0.imp (fun zs s11 c11 H11 x11 r11 y => ?_) fun _ _ _ _ _ _ y => y
          have y2 := y c11 H11 x11 r11
          show Post K cA c1 H1 ((lcF f (items.drop (i + 1)) s11).bind fun ys s2 => mkL fl ((dacc7 ++ [d]) ++ (zs ++ ys)) s2) (okQ K Q) (WW K cA W σ)
          simp only [e3]
          exact y2
    · have ej : j = items1.length := by omega
      subst ej
      rw [List.drop_length] at h7
      have h8 : A1 dacc7 [] s7 c7 H7 := h7 c7 H7 x7 r7
      refine .inl ⟨q4 rfl, rfl, hlt, c7, s7, acc7, dacc7, x7, r7, d7, g71, g72, hv7, ?_, h8⟩
      have hl7' : dacc7.length ≤ i * 1000 + items1.length := hl7
      show dacc7.length ≤ (i + 1) * 1000
      omega
  · have ei : i = items.length := by omega
    subst ei
    rw [List.drop_length] at h3
    have h4 : Post K cA c1 H1 (mkL fl (dacc ++ []) s3) (okQ K Q) (WW K cA W σ) := h3
    rw [List.append_nil] at h4
    exact .inl ⟨j4 rfl, mkL_adopt x3 r3 d3 g1 g2 hD hv h4⟩
end
end
end G

namespace G
open PySem PySem.Spec PyProof.Rows L2
open Classical
noncomputable section
section
variable {T : Tb} {N : List Str} {P : Pg} {cA : Nat → Addr} {lv : Nat}
variable {K : PySem.W.Frag} {W : WX} {σ : L2.St} {H : Hp}
theorem rd_anT {a b : E} {Q : Bool → Hp → Prop} (h : tT K cA P W (.an a b) σ H Q) : tAnd (tT K cA P W a) (tT K cA P W b) σ H Q := by
  obtain ⟨c, e, s, r, re, h⟩ := h
  simp only [ev] at h
  refine (sub_t r re h fun _ _ _ _ z => z).mono fun k H1 ⟨c1, s1, x1, r1, re1, h1⟩ => ?_
  cases k with
  | false =>
    rw [if_neg Bool.false_ne_true] at h1 ⊢
    obtain ⟨b, e1, h2⟩ := h1.ok r1
    cases e1
    exact h2
  | true =>
    rw [if_pos rfl] at h1 ⊢
    exact ⟨c1, e, s1, r1, re1, h1⟩
theorem rd_orrT {a b : E} {Q : Bool → Hp → Prop} (h : tT K cA P W (.orr a b) σ H Q) : tOr (tT K cA P W a) (tT K cA P W b) σ H Q := by
  obtain ⟨c, e, s, r, re, h⟩ := h
  simp only [ev] at h
  refine (sub_t r re h fun _ _ _ _ z => z).mono fun k H1 ⟨c1, s1, x1, r1, re1, h1⟩ => ?_
  cases k with
  | false =>
    rw [if_neg Bool.false_ne_true] at h1 ⊢
    exact ⟨c1, e, s1, r1, re1, h1⟩
  | true =>
    rw [if_pos rfl] at h1 ⊢
    obtain ⟨b, e1, h2⟩ := h1.ok r1
    cases e1
    exact h2
theorem rd_ntT {a : E} {Q : Bool → Hp → Prop} (h : tT K cA P W (.nt a) σ H Q) : tNot (tT K cA P W a) σ H Q := by
  obtain ⟨c, e, s, r, re, h⟩ := h
  simp only [ev] at h
  refine (sub_t r re h fun _ _ _ _ z => z).mono fun k H1 ⟨c1, s1, x1, r1, re1, h1⟩ => ?_
  obtain ⟨b, e1, h2⟩ := h1.ok r1
  cases e1
  exact h2
theorem tT_B {m : E} {Q : Bool → Hp → Prop} (h : tT K cA P W m σ H Q) : tB (tE K cA P W m) σ H Q := by
  obtain ⟨c, e, s, r, re, h⟩ := h
  exact ⟨c, e, s, r, re, h.imp (fun a s' c' H' _ _ ⟨b, z1, z2⟩ v hv => ⟨b, dBool_v z1 hv, z2⟩) fun _ _ _ _ _ _ z => z⟩
/-- a test that is no test of its own kind -/
def genT : Expr → Bool
  | .UnaryOp .Not _ _ => false
  | .BoolOp .. => false
  | .IfExp .. => false
  | .Compare .. => false
  | _ => true
theorem gen_true {e : Expr} {env : PySem.Env} (h : genT e = true) : ∀ whole, isTrue e env whole = (do let v ← whole; standAt e.pos; holding [v] (truthy v)) := by
  intro whole
  cases e <;> first | rfl | exact Bool.noConfusion (show false = true from h) | skip
  rename_i op x pos
  cases op <;> first | rfl | exact Bool.noConfusion (show false = true from h)
structure Snd (P : Pg) (cA : Nat → Addr) (X : Cx) (W : WX) (e : Expr) (m : E) : Prop where
  pe : PE X e (tE X.K cA P W m)
  pt : tstB m = true → PT X e (tT X.K cA P W m)
  pw : ∀ op vs pos, e = .BoolOp op vs pos → tstB m = true → PW X e (tT X.K cA P W m)
theorem Snd.gen {X : Cx} {W : WX} {e : Expr} {m : E} (h : PE X e (tE X.K cA P W m)) (g : genT e = true) : Snd P cA X W e m :=
  ⟨h, fun _ => PT.imp (pt_val h (gen_true g)) fun _ _ _ z => tT_B z, fun op vs pos z => by subst z; exact Bool.noConfusion (show false = true from g)⟩
theorem snd_rest {X : Cx} {W : WX} {y : Expr} {r : List Expr} {pos : Pos} {op : BoolOp} {m : E} (h : Snd P cA X W (restB op y r pos) m) (ht : tstB m = true) : PE X (.BoolOp op (y :: r) pos) (tE X.K cA P W m) ∧ PW X (.BoolOp op (y :: r) pos) (tT X.K cA P W m) := by
  cases r with
  | nil =>
    refine ⟨pe_one h.pe, ?_⟩
    cases op with
    | And => exact pw_and1 (h.pt ht)
    | Or => exact pw_or1 (h.pt ht)
  | cons z r => exact ⟨h.pe, h.pw _ _ _ rfl ht⟩
theorem k_ok {X : Cx} {W : WX} {d : PyData} {q : Const} {j : Nat} {pos : Pos} (h : ckK d q = true) : PE X (.Constant q j pos) (tE X.K cA P W (.k d)) := by
  have fin : ∀ v, (∀ F : Hp, Dq X.K F v d) → ∀ σ H Q, tE X.K cA P W (.k d) σ H Q → tC v σ H Q := fun v hv σ H Q h => by
    obtain ⟨c, e, s, r, re, h⟩ := h
    simp only [ev] at h
    exact h.ok r v (hv c.F)
  cases d with
  | none =>
    cases q <;> first | exact PE.imp pe_non (fin _ fun _ => .non) | exact Bool.noConfusion (show false = true from h)
  | bool b =>
    cases q <;> first | exact Bool.noConfusion (show false = true from h) | skip
    rename_i b'
    have e : b = b' := eq_of_beq h
    subst e
    exact PE.imp pe_bl (fin _ fun _ => .bl b)
  | int i =>
    cases q <;> first | exact Bool.noConfusion (show false = true from h) | skip
    rename_i b'
    have e : i = b' := of_decide_eq_true h
    subst e
    exact PE.imp pe_int (fin _ fun _ => .int i)
  | str i =>
    cases q <;> first | exact Bool.noConfusion (show false = true from h) | skip
    rename_i b'
    have e : i = b' := of_decide_eq_true h
    subst e
    exact PE.imp pe_str (fin _ fun _ => .str i)
  | list l => exact Bool.noConfusion (show false = true from h)
  | tuple l => exact Bool.noConfusion (show false = true from h)
  | dict l => exact Bool.noConfusion (show false = true from h)
theorem bi_ok {X : Cx} {b : Bi} {fl : Bool} {x : Str} {e : Expr} {ta : TE} {p pos : Pos} (h : biOk b = true) (hx : x = biN b) (hg : Gl X x) (hm : X.mg x = none) (hdb : (x == ("__debug__" : Str)) = false) (hn : x ≠ "__name__") (hc : X.calm = true) (hgd : X.A.guards = some []) (hu : X.A.units + 65 < cLine) (ha : PE X e ta) (hp : plainE e = true) :
    PE X (.Call (.Name x p) [e] [] pos) (tCB (rU1 X.K cA (biop b fl)) (tCons ta tNil)) := by
  have a1 : PA X [e] (tCons ta tNil) := pa_cons ha pa_nil (star_cons hp)
  have s1 := star_cons (es := []) (env := X.env) hp
  have s2 : (backTo pos (starEach ([] : List Expr) X.env)).any (·.1) = false := rfl
  subst hx
  cases b with
  | len => exact pe_callB (ob_len hc fl) hg hm boot_len a1 hn hdb s1 s2
  | list => exact pe_callTy (ob_list hc fl) hg hm boot_list a1 hn hdb s1 s2
  | tuple => exact pe_callTy (ob_tuple hc fl) hg hm boot_tuple a1 hn hdb s1 s2
  | abs => exact pe_callB (ob_abs hc fl) hg hm boot_abs a1 hn hdb s1 s2
  | min => exact pe_callB (ob_min hc fl) hg hm boot_min a1 hn hdb s1 s2
  | max => exact pe_callB (ob_max hc fl) hg hm boot_max a1 hn hdb s1 s2
  | int => exact pe_callTy (ob_int hc fl) hg hm boot_int a1 hn hdb s1 s2
  | all => exact pe_callB (ob_all hc fl) hg hm boot_all a1 hn hdb s1 s2
  | any => exact pe_callB (ob_any hc fl) hg hm boot_any a1 hn hdb s1 s2
  | repr => exact pe_callB (ob_repr hgd hu fl) hg hm boot_repr a1 hn hdb s1 s2
  | sum => exact pe_callB (ob_sum hc fl) hg hm boot_sum a1 hn hdb s1 s2
  | _ => exact Bool.noConfusion (show false = true from h)
theorem ty_boot {t : Ty} (ht : ∀ k, t ≠ .own k) : bootBuiltins (tyN t) = some (.type (tyName t)) := by
  cases t with
  | own k => exact (ht k rfl).elim
  | int => exact boot_int
  | bool => exact boot_bool
  | str => exact boot_str
  | tuple => exact boot_tuple
  | list => exact boot_list
  | dict => exact boot_dict
theorem XC.blk {X : Cx} {sc bs : Scope} {fb : Str → Bool} {W : WX} (hX : XC T P cA lv X N sc fb W) (s : Shared) (H : Hp) (C : Addr) (cl : List (Str × Addr)) (fp : List Addr) :
    XC T P cA lv (X.blk s H bs (compEnvC bs cl C X.env) fp) N (relS bs sc) (fun x => bs.names.lookup x == some .cell) (fun _ _ _ _ => False) := by
  refine ⟨hX.hN, hX.nd, ?_, rfl, hX.calm, hX.room, hX.gd, takes0, hX.g⟩
  show relS bs X.env.scope = relS bs sc
  rw [hX.sc]
theorem tT_C {m : E} {Q : Bool → Hp → Prop} (h : tC1 K cA P W (.so m) σ H Q) : tT K cA P W m σ H Q := by
  obtain ⟨c, e, s, r, re, h⟩ := h
  simp only [evc] at h
  refine (sub_t r re h fun _ _ _ _ z => z).mono fun k H1 ⟨c1, s1, x1, r1, re1, h1⟩ => h1.ok r1
theorem PO.imp {X : Cx} {e : Option Expr} {t t' : TO} (h : PO X e t) (k : ∀ σ H Q, t' σ H Q → t σ H Q) : PO X e t' := ⟨fun pins s σ H Q I q => h.run pins s σ H Q I (k _ _ _ q)⟩
theorem PTs.imp {X : Cx} {e : List Expr} {t t' : TT} (h : PTs X e t) (k : ∀ σ H Q, t' σ H Q → t σ H Q) : PTs X e t' := ⟨fun pins s σ H Q I q => h.run pins s σ H Q I (k _ _ _ q)⟩
theorem few1 {z : Expr} {env : PySem.Env} {pos : Pos} (h : plainE z = true) : ((backTo pos (starEach [z] env)).all (fun x => !x.1) && (backToKw pos (keywordEach [] env)).all (fun x => x.1.isSome)
      && decide ([z].length + ([] : List Keyword).length + (if ([] : List Keyword).isEmpty then 0 else 1) < 30)) = true := by
  rw [star_cons h] <;> rfl
theorem few2 {z u : Expr} {env : PySem.Env} {pos : Pos} (h : plainE z = true) (h2 : plainE u = true) : ((backTo pos (starEach [z, u] env)).all (fun x => !x.1) && (backToKw pos (keywordEach [] env)).all (fun x => x.1.isSome)
      && decide ([z, u].length + ([] : List Keyword).length + (if ([] : List Keyword).isEmpty then 0 else 1) < 30)) = true := by
  rw [star_cons h, star_cons h2] <;> rfl
mutual
theorem sndE : ∀ (m : E) {X : Cx} {sc : Scope} {fb : Str → Bool} {W : WX} {e : Expr}, ckE T N m sc fb e = true → XC T P cA lv X N sc fb W → Snd P cA X W e m
  | .nv, X, sc, fb, W, e, h, hX => by
    refine ⟨⟨fun pins s σ H Q I z => ?_⟩, fun z => (by cases z), fun _ _ _ _ z => by cases z⟩
    obtain ⟨c, e, s, r, re, h⟩ := z
    exact h.elim
  | .v i, X, sc, fb, W, e, h, hX => by
    cases e with
    | Name x pos =>
      have h' : (decide (N[i]? = some x) && (visB sc x && dbgB x)) = true := h
      simp only [Bool.and_eq_true, decide_eq_true_eq] at h'
      obtain ⟨h1, h2, h3⟩ := h'
      obtain ⟨g1, g2, g3⟩ := dbgB_ok h3
      refine .gen (PE.imp (pe_var (i := i) (by rw [hX.hN]; exact h1) (by rw [hX.sc]; exact visB_ok h2) g1 g2) ?_) rfl
      rintro σ H Q ⟨c, e, s, r, re, h⟩
      simp only [ev] at h
      split at h
      · rename_i d q
        obtain ⟨v, k1, k2⟩ := re.2 i d q
        exact ⟨v, k1, h.ok r v k2⟩
      · exact h.elim
    | _ => exact Bool.noConfusion (show false = true from h)
  | .k d, X, sc, fb, W, e, h, hX => by
    cases e with
    | Constant q j pos => exact .gen (k_ok h) rfl
    | _ => exact Bool.noConfusion (show false = true from h)
  | .g i, X, sc, fb, W, e, h, hX => by
    cases e with
    | Name x pos =>
      have h' : (decide (T.gls[i]? = some x) && (glB sc x && dbgB x)) = true := h
      simp only [Bool.and_eq_true, decide_eq_true_eq] at h'
      obtain ⟨h1, h2, h3⟩ := h'
      obtain ⟨g1, g2, g3⟩ := dbgB_ok h3
      obtain ⟨u, v, k1, k2, k3⟩ := hX.g.gl i x h1
      refine .gen (PE.imp (pe_glob (glB_gl h2 hX) k1 k2 g1) ?_) rfl
      rintro σ H Q ⟨c, e, s, r, re, h⟩
      simp only [ev] at h
      exact h.ok r v (k3 c.F)
    | _ => exact Bool.noConfusion (show false = true from h)
  | .tup es, X, sc, fb, W, e, h, hX => by
    cases e with
    | Tuple xs j pos => exact .gen (PE.imp (pe_tup (sndEs es h hX)) fun _ _ _ z => rd_tup z) rfl
    | _ => exact Bool.noConfusion (show false = true from h)
  | .lst fl es, X, sc, fb, W, e, h, hX => by
    cases e with
    | List xs pos => exact .gen (PE.imp (pe_lst (sndEs es h hX)) fun _ _ _ z => rd_lst z) rfl
    | _ => exact Bool.noConfusion (show false = true from h)
  | .dnew, X, sc, fb, W, e, h, hX => by
    cases e <;> exact Bool.noConfusion (show false = true from h)
  | .bin op fl a b, X, sc, fb, W, e, h, hX => by
    cases e with
    | BinOp x o y pos =>
      have h' : (oB op o && (ckE T N a sc fb x && ckE T N b sc fb y)) = true := h
      simp only [Bool.and_eq_true] at h'
      obtain ⟨h1, h2, h3⟩ := h'
      have ho := oB_ok h1
      subst ho
      exact .gen (PE.imp (pe_op (ob_bin op fl) (sndE a h2 hX).pe (sndE b h3 hX).pe) fun _ _ _ z => rd_bin z) rfl
    | _ => exact Bool.noConfusion (show false = true from h)
  | .neg a, X, sc, fb, W, e, h, hX => by
    cases e with
    | UnaryOp op x pos =>
      cases op with
      | USub => exact .gen (PE.imp (pe_un un_neg (sndE a h hX).pe) fun _ _ _ z => rd_neg z) rfl
      | _ => exact Bool.noConfusion (show false = true from h)
    | _ => exact Bool.noConfusion (show false = true from h)
  | .nt a, X, sc, fb, W, e, h, hX => by
    cases e with
    | UnaryOp op x pos =>
      cases op with
      | Not =>
        have h' : (ckE T N a sc fb x && tstB a) = true := h
        simp only [Bool.and_eq_true] at h'
        have q := sndE a h'.1 hX
        exact ⟨PE.imp (pe_not q.pe) fun _ _ _ z => rd_nt z, fun _ => PT.imp (pt_not (q.pt h'.2)) fun _ _ _ z => rd_ntT z, fun _ _ _ z => by cases z⟩
      | _ => exact Bool.noConfusion (show false = true from h)
    | _ => exact Bool.noConfusion (show false = true from h)
  | .cmp op a b, X, sc, fb, W, e, h, hX => by
    cases e with
    | Compare x os ys pos =>
      match os, ys, h with
      | [o], [y], h =>
        have h' : (oC op o && (ckE T N a sc fb x && (ckE T N b sc fb y && plainE y))) = true := h
        simp only [Bool.and_eq_true] at h'
        obtain ⟨h1, h2, h3, h4⟩ := h'
        have ho := oC_ok h1
        subst ho
        have hu : X.A.units + 65 < cLine := by have := hX.room.un; omega
        exact ⟨PE.imp (pe_cmpR (ob_cmp hu op) (sndE a h2 hX).pe (sndE b h3 hX).pe (plain_mark _ h4)) fun _ _ _ z => rd_cmp z,
          fun _ => PT.imp (pt_cmpR (ob_cmp hu op) (sndE a h2 hX).pe (sndE b h3 hX).pe (plain_mark _ h4)) fun _ _ _ z => rd_cmp (tT_tE z), fun _ _ _ z => by cases z⟩
      | [], _, h => exact Bool.noConfusion (show false = true from h)
      | [_], [], h => exact Bool.noConfusion (show false = true from h)
      | [_], _ :: _ :: _, h => exact Bool.noConfusion (show false = true from h)
      | _ :: _ :: _, _, h => exact Bool.noConfusion (show false = true from h)
    | _ => exact Bool.noConfusion (show false = true from h)
  | .chn o1 o2 a b m, X, sc, fb, W, e, h, hX => by
    cases e with
    | Compare x os ys pos =>
      match os, ys, h with
      | [p1, p2], [y, z], h =>
        have h' : ((oC o1 p1 && oC o2 p2) && (ckE T N a sc fb x && (ckE T N b sc fb y && (ckE T N m sc fb z && plainE z)))) = true := h
        simp only [Bool.and_eq_true] at h'
        obtain ⟨⟨h1, h2⟩, h3, h4, h5, h6⟩ := h'
        have ho := oC_ok h1
        have hp := oC_ok h2
        subst ho hp
        have hu : X.A.units + 65 < cLine := by have := hX.room.un; omega
        have hm : lastMarks [aCop o1, aCop o2] [y, z] = false := plain_mark _ h6
        exact ⟨PE.imp (pe_chain (ob_cmp hu o1) (ob_cmp hu o2) (sndE a h3 hX).pe (sndE b h4 hX).pe (sndE m h5 hX).pe hm) fun _ _ _ z => rd_chn z,
          fun _ => PT.imp (pt_chain (ob_cmp hu o1) (ob_cmp hu o2) (sndE a h3 hX).pe (sndE b h4 hX).pe (sndE m h5 hX).pe hm) fun _ _ _ z => rd_chn (tT_tE z), fun _ _ _ z => by cases z⟩
      | [], _, h => exact Bool.noConfusion (show false = true from h)
      | [_], [], h => exact Bool.noConfusion (show false = true from h)
      | [_], [_], h => exact Bool.noConfusion (show false = true from h)
      | [_], _ :: _ :: _, h => exact Bool.noConfusion (show false = true from h)
      | [_, _], [], h => exact Bool.noConfusion (show false = true from h)
      | [_, _], [_], h => exact Bool.noConfusion (show false = true from h)
      | [_, _], _ :: _ :: _ :: _, h => exact Bool.noConfusion (show false = true from h)
      | _ :: _ :: _ :: _, _, h => exact Bool.noConfusion (show false = true from h)
    | _ => exact Bool.noConfusion (show false = true from h)
  | .an a b, X, sc, fb, W, e, h, hX => by
    cases e with
    | BoolOp op vs pos =>
      match op, vs, h with
      | .And, x :: y :: r, h =>
        have h' : ((ckE T N a sc fb x && tstB a) && (ckE T N b sc fb (restB .And y r pos) && tstB b)) = true := h
        simp only [Bool.and_eq_true] at h'
        obtain ⟨⟨h1, h2⟩, h3, h4⟩ := h'
        have q := sndE a h1 hX
        obtain ⟨k1, k2⟩ := snd_rest (sndE b h3 hX) h4
        have w := PW.imp (t' := tT X.K cA P W (.an a b)) (pw_and (q.pt h2) k2) fun _ _ _ z => rd_anT z
        exact ⟨PE.imp (pe_and q.pe k1) fun _ _ _ z => rd_an z, fun _ => w.pt, fun _ _ _ z _ => by cases z; exact w⟩
      | .And, [], h => exact Bool.noConfusion (show false = true from h)
      | .And, [_], h => exact Bool.noConfusion (show false = true from h)
      | .Or, _, h => exact Bool.noConfusion (show false = true from h)
    | _ => exact Bool.noConfusion (show false = true from h)
  | .orr a b, X, sc, fb, W, e, h, hX => by
    cases e with
    | BoolOp op vs pos =>
      match op, vs, h with
      | .Or, x :: y :: r, h =>
        have h' : ((ckE T N a sc fb x && tstB a) && (ckE T N b sc fb (restB .Or y r pos) && tstB b)) = true := h
        simp only [Bool.and_eq_true] at h'
        obtain ⟨⟨h1, h2⟩, h3, h4⟩ := h'
        have q := sndE a h1 hX
        obtain ⟨k1, k2⟩ := snd_rest (sndE b h3 hX) h4
        have w := PW.imp (t' := tT X.K cA P W (.orr a b)) (pw_or (q.pt h2) k2) fun _ _ _ z => rd_orrT z
        exact ⟨PE.imp (pe_or q.pe k1) fun _ _ _ z => rd_orr z, fun _ => w.pt, fun _ _ _ z _ => by cases z; exact w⟩
      | .Or, [], h => exact Bool.noConfusion (show false = true from h)
      | .Or, [_], h => exact Bool.noConfusion (show false = true from h)
      | .And, _, h => exact Bool.noConfusion (show false = true from h)
    | _ => exact Bool.noConfusion (show false = true from h)
  | .ife t a b, X, sc, fb, W, e, h, hX => by
    cases e with
    | IfExp x y z pos =>
      have h' : ((ckE T N t sc fb x && tstB t) && (ckE T N a sc fb y && ckE T N b sc fb z)) = true := h
      simp only [Bool.and_eq_true] at h'
      obtain ⟨⟨h1, h2⟩, h3, h4⟩ := h'
      exact ⟨PE.imp (pe_ifExp ((sndE t h1 hX).pt h2) (sndE a h3 hX).pe (sndE b h4 hX).pe) fun _ _ _ z => rd_ife z, fun z => (by cases z), fun _ _ _ z => by cases z⟩
    | _ => exact Bool.noConfusion (show false = true from h)
  | .ix a i, X, sc, fb, W, e, h, hX => by
    cases e with
    | Subscript x y pos =>
      have h' : (ckE T N a sc fb x && (ckE T N i sc fb y && plainE y)) = true := h
      simp only [Bool.and_eq_true] at h'
      obtain ⟨h1, h2, h3⟩ := h'
      exact .gen (PE.imp (pe_ix ob_ix (sndE a h1 hX).pe (sndE i h2 hX).pe (plain_ix h3)) fun _ _ _ z => rd_ix z) rfl
    | _ => exact Bool.noConfusion (show false = true from h)
  | .sl fl a lo hi, X, sc, fb, W, e, h, hX => by
    cases e with
    | Subscript x y pos =>
      cases y with
      | Slice l u st p2 =>
        cases st with
        | none =>
          have h' : (ckE T N a sc fb x && (ckO T N lo sc fb l && ckO T N hi sc fb u)) = true := h
          simp only [Bool.and_eq_true] at h'
          obtain ⟨h1, h2, h3⟩ := h'
          exact .gen (PE.imp (pe_slice (ob_sl fl) (sndE a h1 hX).pe (sndO lo h2 hX) (sndO hi h3 hX)) fun _ _ _ z => rd_sl z) rfl
        | some st => exact Bool.noConfusion (show false = true from h)
      | _ => exact Bool.noConfusion (show false = true from h)
    | _ => exact Bool.noConfusion (show false = true from h)
  | .rev fl a, X, sc, fb, W, e, h, hX => by
    cases e with
    | Subscript x y pos =>
      match y, h with
      | .Slice none none (some (.UnaryOp .USub (.Constant (.int 1) j p1) p2)) p3, h => exact .gen (PE.imp (pe_revL (sndE a h hX).pe) fun _ _ _ z => rd_rev z) rfl
    | _ => exact Bool.noConfusion (show false = true from h)
  | .call f es, X, sc, fb, W, e, h, hX => by
    cases e with
    | Call fn args kws pos =>
      cases fn with
      | Name x p =>
        match args, kws, h with
        | y :: ys, [], h =>
          have h' : ((match T.fns[f]? with
            | some (z, n) => decide (z = x) && decide (n = (y :: ys).length)
            | none => false) && (glB sc x && dbgB x) && ckEs T N es sc fb (y :: ys)) = true := h
          simp only [Bool.and_eq_true] at h'
          obtain ⟨⟨h1, h2, h3⟩, h4⟩ := h'
          cases ef : T.fns[f]? with
          | none => rw [ef] at h1; exact Bool.noConfusion h1
          | some zn =>
            obtain ⟨z, n⟩ := zn
            rw [ef] at h1
            simp only [Bool.and_eq_true, decide_eq_true_eq] at h1
            obtain ⟨rfl, hn⟩ := h1
            obtain ⟨a, fd, ps, F, k1, k2, k3⟩ := hX.g.fn f z n ef
            obtain ⟨g1, g2, g3⟩ := dbgB_ok h3
            have hp := ckEs_plain h4
            rw [List.all_cons, Bool.and_eq_true] at hp
            refine .gen (PE.imp (pe_callG F (hX.room.mono (by omega)) hX.gd (glB_gl h2 hX) k1 k2 k3 (fun σ => passAt hX.tk σ) (sndEs es h4 hX) g1 (star_cons hp.1) (star_any hp.2)) fun σ H Q z => ?_) rfl
            exact rd_call (n := n) (fun hp => (lens h4 hp).imp (fun _ _ _ _ _ _ z => ⟨by rw [hn]; exact z.1, z.2⟩) fun _ _ _ _ _ _ z => z) z
        | [], _, h => exact Bool.noConfusion (show false = true from h)
        | _ :: _, _ :: _, h => exact Bool.noConfusion (show false = true from h)
      | _ => exact Bool.noConfusion (show false = true from h)
    | _ => exact Bool.noConfusion (show false = true from h)
  | .bi b fl a, X, sc, fb, W, e, h, hX => by
    cases e with
    | Call fn args kws pos =>
      cases fn with
      | Name x p =>
        match args, kws, h with
        | [y], [], h =>
          have h' : (biOk b && (decide (x = biN b) && blB T sc x) && (ckE T N a sc fb y && plainE y)) = true := h
          simp only [Bool.and_eq_true, decide_eq_true_eq] at h'
          obtain ⟨⟨h1, h2, h3⟩, h4, h5⟩ := h'
          obtain ⟨g1, g2, g3, g4⟩ := blB_ok h3 hX
          exact .gen (PE.imp (bi_ok (fl := fl) h1 h2 g1 g2 g3 g4 hX.calm hX.gd (by have := hX.room.un; omega) (sndE a h4 hX).pe h5) fun _ _ _ z => rd_bi z) rfl
        | [], _, h => exact Bool.noConfusion (show false = true from h)
        | [_], _ :: _, h => exact Bool.noConfusion (show false = true from h)
        | _ :: _ :: _, [], h => exact Bool.noConfusion (show false = true from h)
        | _ :: _ :: _, _ :: _, h => exact Bool.noConfusion (show false = true from h)
      | _ => exact Bool.noConfusion (show false = true from h)
    | _ => exact Bool.noConfusion (show false = true from h)
  | .bi2 b a d, X, sc, fb, W, e, h, hX => by
    cases e <;> exact Bool.noConfusion (show false = true from h)
  | .isi a t, X, sc, fb, W, e, h, hX => by
    cases e with
    | Call fn args kws pos =>
      cases fn with
      | Name x p =>
        match args, kws, h with
        | [y, z], [], h =>
          have h' : (decide (x = "isinstance") && blB T sc x && (nmB z (tyN t) && blB T sc (tyN t) && (ckE T N a sc fb y && plainE y)) && bltTy t) = true := h
          simp only [Bool.and_eq_true, decide_eq_true_eq] at h'
          obtain ⟨⟨⟨h1, h2⟩, ⟨h3, h4⟩, h5, h6⟩, h7⟩ := h'
          have ht : ∀ k, t ≠ .own k := fun k q => by subst q; cases h7
          obtain ⟨p2, rfl⟩ := nmB_ok h3
          obtain ⟨g1, g2, g3, g4⟩ := blB_ok h2 hX
          obtain ⟨k1, k2, k3, k4⟩ := blB_ok h4 hX
          subst h1
          have pz : PE X (.Name (tyN t) p2) (tC (.ty (tyName t))) := pe_bltn k1 k2 (ty_boot ht) rfl k4 k3
          exact .gen (PE.imp (pe_callB (ob_isi ht) g1 g2 boot_isinstance (pa_cons (sndE a h5 hX).pe (pa_cons pz pa_nil (star_cons rfl)) (star_cons h6)) g4 g3 (star_cons h6) (star_any rfl)) fun _ _ _ z => rd_isi z) rfl
        | [], _, h => exact Bool.noConfusion (show false = true from h)
        | [_], _, h => exact Bool.noConfusion (show false = true from h)
        | [_, _], _ :: _, h => exact Bool.noConfusion (show false = true from h)
        | _ :: _ :: _ :: _, [], h => exact Bool.noConfusion (show false = true from h)
        | _ :: _ :: _ :: _, _ :: _, h => exact Bool.noConfusion (show false = true from h)
      | _ => exact Bool.noConfusion (show false = true from h)
    | _ => exact Bool.noConfusion (show false = true from h)
  | .isx a k, X, sc, fb, W, e, h, hX => by
    cases e with
    | Call fn args kws pos =>
      cases fn with
      | Name x p =>
        match args, kws, h with
        | [y, z], [], h =>
          have h' : (decide (x = "isinstance") && blB T sc x && (isxB T sc k z && (ckE T N a sc fb y && plainE y))) = true := h
          simp only [Bool.and_eq_true, decide_eq_true_eq] at h'
          obtain ⟨⟨h1, h2⟩, h3, h5, h6⟩ := h'
          obtain ⟨g1, g2, g3, g4⟩ := blB_ok h2 hX
          subst h1
          obtain ⟨z', p2, rfl, pz⟩ : ∃ z' p2, z = .Name z' p2 ∧ PE X (.Name z' p2) (tC (tyV cA k)) := by
            cases k with
            | none =>
              have h3' : (nmB z "ValueError" && (decide (("ValueError" : Str) ∈ T.fr) && glB sc "ValueError" && dbgB "ValueError")) = true := h3
              obtain ⟨k1, k2⟩ := Bool.and_eq_true_iff.mp h3'
              obtain ⟨p2, rfl⟩ := nmB_ok k1
              obtain ⟨l1, l2, l3, l4⟩ := blB_ok (x := ("ValueError" : Str)) k2 hX
              exact ⟨_, p2, rfl, pe_bltn l1 l2 PyProof.Rows.Boot.«ValueError» rfl l4 l3⟩
            | some k =>
              unfold isxB at h3
              dsimp only at h3
              cases ek : T.exs[k]? with
              | none => rw [ek] at h3; cases h3
              | some cb =>
                obtain ⟨c, b⟩ := cb
                rw [ek] at h3
                simp only [Bool.and_eq_true] at h3
                obtain ⟨k1, k2, k3⟩ := h3
                obtain ⟨p2, rfl⟩ := nmB_ok k1
                obtain ⟨l1, l2, l3⟩ := dbgB_ok k3
                exact ⟨_, p2, rfl, pe_glob (glB_gl k2 hX) (hX.g.ex.gl _ _ _ ek).1 rfl l1⟩
          exact .gen (PE.imp (pe_callB (ob_isx hX.g.ex) g1 g2 boot_isinstance (pa_cons (sndE a h5 hX).pe (pa_cons pz pa_nil (star_cons rfl)) (star_cons h6)) g4 g3 (star_cons h6) (star_any rfl)) fun _ _ _ z => rd_isx z) rfl
        | [], _, h => exact Bool.noConfusion (show false = true from h)
        | [_], _, h => exact Bool.noConfusion (show false = true from h)
        | [_, _], _ :: _, h => exact Bool.noConfusion (show false = true from h)
        | _ :: _ :: _ :: _, [], h => exact Bool.noConfusion (show false = true from h)
        | _ :: _ :: _ :: _, _ :: _, h => exact Bool.noConfusion (show false = true from h)
      | _ => exact Bool.noConfusion (show false = true from h)
    | _ => exact Bool.noConfusion (show false = true from h)
  | .app a x, X, sc, fb, W, e, h, hX => by
    cases e with
    | Call fn args kws pos =>
      cases fn with
      | Attribute y m ap =>
        match args, kws, h with
        | [z], [], h =>
          have h' : (decide (m = "append") && (decide (ap.endLine = pos.line) && attB y) && (ckE T N a sc fb y && (ckE T N x sc fb z && plainE z))) = true := h
          simp only [Bool.and_eq_true, decide_eq_true_eq] at h'
          obtain ⟨⟨h1, h2, h3⟩, h4, h5, h6⟩ := h'
          subst h1
          exact .gen (PE.imp (pe_bm PySem.F.plainAttrs_list PySem.F.slot_list_append PySem.F.type_list_append ob_app (sndE a h4 hX).pe (pa_cons (sndE x h5 hX).pe pa_nil (star_cons h6)) (att_base h3) (few1 h6) (by rw [h2]; exact beq_self_eq_true _) (star_cons h6) rfl) fun _ _ _ z => rd_app z) rfl
        | [], _, h => exact Bool.noConfusion (show false = true from h)
        | [_], _ :: _, h => exact Bool.noConfusion (show false = true from h)
        | _ :: _ :: _, [], h => exact Bool.noConfusion (show false = true from h)
        | _ :: _ :: _, _ :: _, h => exact Bool.noConfusion (show false = true from h)
      | _ => exact Bool.noConfusion (show false = true from h)
    | _ => exact Bool.noConfusion (show false = true from h)
  | .ins a i x, X, sc, fb, W, e, h, hX => by
    cases e with
    | Call fn args kws pos =>
      cases fn with
      | Attribute y m ap =>
        match args, kws, h with
        | [z, u], [], h =>
          have h' : (decide (m = "insert") && (decide (ap.endLine = pos.line) && attB y) && (ckE T N a sc fb y && (ckE T N i sc fb z && plainE z && (ckE T N x sc fb u && plainE u)))) = true := h
          simp only [Bool.and_eq_true, decide_eq_true_eq] at h'
          obtain ⟨⟨h1, h2, h3⟩, h4, ⟨h5, h6⟩, h7, h8⟩ := h'
          subst h1
          exact .gen (PE.imp (pe_bm PySem.F.plainAttrs_list PySem.F.slot_list_insert PySem.F.type_list_insert ob_ins (sndE a h4 hX).pe (pa_cons (sndE i h5 hX).pe (pa_cons (sndE x h7 hX).pe pa_nil (star_cons h8)) (star_cons h6)) (att_base h3) (few2 h6 h8) (by rw [h2]; exact beq_self_eq_true _) (star_cons h6) (star_any (by rw [List.all_cons, h8]; rfl))) fun _ _ _ z => rd_ins z) rfl
        | [], _, h => exact Bool.noConfusion (show false = true from h)
        | [_], _, h => exact Bool.noConfusion (show false = true from h)
        | [_, _], _ :: _, h => exact Bool.noConfusion (show false = true from h)
        | _ :: _ :: _ :: _, [], h => exact Bool.noConfusion (show false = true from h)
        | _ :: _ :: _ :: _, _ :: _, h => exact Bool.noConfusion (show false = true from h)
      | _ => exact Bool.noConfusion (show false = true from h)
    | _ => exact Bool.noConfusion (show false = true from h)
  | .lc fl el ow tg it q, X, sc, fb, W, e, h, hX => by
    cases e with
    | ListComp x gs bs pos =>
      match gs, h with
      | [⟨t, i, ifs, 0⟩], h =>
        have h' : (blkC N sc bs (ownOf N ow) && (decide ((ownOf N ow).map (·.2) = ow) && (tgS tg).all (fun j => decide (j ∈ ow))) &&
          (ckI T N it sc fb t i && plainE i) && (ckG N (relS bs sc) (fun x => bs.names.lookup x == some .cell) tg t && (ckC T N q (relS bs sc) (fun x => bs.names.lookup x == some .cell) ifs && ckE T N el (relS bs sc) (fun x => bs.names.lookup x == some .cell) x))) = true := h
        simp only [Bool.and_eq_true, decide_eq_true_eq, List.all_eq_true] at h'
        obtain ⟨⟨⟨h1, h2, h3⟩, h4, h5⟩, h6, h7, h8⟩ := h'
        have ok : BlkOk X.N X.env.scope bs (ownOf N ow) := by
          rw [hX.hN, hX.sc]
          exact blkOk_by h1
        have q1 := pe_lc (X := X) (elt := x) (tg := t) (iter := i) (ifs := ifs) (scope := bs) (own := ownOf N ow) (pos := pos) (g := tG X.K cA tg) (tt := tC1 X.K cA P (fun _ _ _ _ => False) q) (te := tE X.K cA P (fun _ _ _ _ => False) el) hX.calm hX.nd (sndI it h4 hX) ok
          (fun s H C cl fp => by
            have hB := hX.blk s H C cl fp (bs := bs)
            refine pg_ck (X := X.blk s H bs (compEnvC bs cl C X.env) fp) (N := N) ?_ hB.hN hB.nd hB.calm
            rw [hB.sc, hB.fb]
            exact h6)
          (fun s H C cl fp => sndC q h7 (hX.blk s H C cl fp)) (fun s H C cl fp => (sndE el h8 (hX.blk s H C cl fp)).pe) (plain_set h5)
        rw [h2] at q1
        exact .gen (PE.imp q1 fun _ _ _ z => rd_lc h3 z) rfl
    | _ => exact Bool.noConfusion (show false = true from h)
  | .lc2 fl el ow tg it tg2 it2 ow2 q, X, sc, fb, W, e, h, hX => by
    cases e with
    | ListComp x gs bs pos =>
      match gs, h with
      | [⟨t, i, [], 0⟩, ⟨t2, i2, ifs, 0⟩], h =>
        have h' : (blkC N sc bs (ownOf N ow) && (decide ((ownOf N ow).map (·.2) = ow) && (tgS tg).all (fun j => decide (j ∈ ow)) && ((tgS tg2).all (fun j => decide (j ∈ ow2)) && ow2.all (fun j => decide (j ∈ ow)))) &&
          (ckI T N it sc fb t i && plainE i) && (ckG N (relS bs sc) (fun x => bs.names.lookup x == some .cell) tg t && ((ckI T N it2 (relS bs sc) (fun x => bs.names.lookup x == some .cell) t2 i2 && plainE i2) && ckG N (relS bs sc) (fun x => bs.names.lookup x == some .cell) tg2 t2) && (ckC T N q (relS bs sc) (fun x => bs.names.lookup x == some .cell) ifs && ckE T N el (relS bs sc) (fun x => bs.names.lookup x == some .cell) x))) = true := h
        simp only [Bool.and_eq_true, decide_eq_true_eq, List.all_eq_true] at h'
        obtain ⟨⟨⟨h1, ⟨h2, h3⟩, h31, h32⟩, h4, h5⟩, ⟨h6, ⟨h61, h62⟩, h63⟩, h7, h8⟩ := h'
        have ok : BlkOk X.N X.env.scope bs (ownOf N ow) := by
          rw [hX.hN, hX.sc]
          exact blkOk_by h1
        have q1 := pe_lc2 (X := X) (elt := x) (tg := t) (iter := i) (ifs := []) (tg1 := t2) (iter1 := i2) (ifs1 := ifs) (scope := bs) (own := ownOf N ow) (vs1 := ow2) (pos := pos) (g := tG X.K cA tg) (g1 := tG X.K cA tg2) (tt := tC1 X.K cA P (fun _ _ _ _ => False) .no) (tt1 := tC1 X.K cA P (fun _ _ _ _ => False) q) (wi1 := tI X.K cA P (fun _ _ _ _ => False) it2) (te := tE X.K cA P (fun _ _ _ _ => False) el) hX.calm hX.nd (sndI it h4 hX) ok (fun j hj => by rw [h2]; exact h32 j hj)
          (fun s H C cl fp => by
            have hB := hX.blk s H C cl fp (bs := bs)
            refine pg_ck (X := X.blk s H bs (compEnvC bs cl C X.env) fp) (N := N) ?_ hB.hN hB.nd hB.calm
            rw [hB.sc, hB.fb]
            exact h6)
          (fun s H C cl fp => sndC .no rfl (hX.blk s H C cl fp)) (fun s H C cl fp => sndI it2 h61 (hX.blk s H C cl fp))
          (fun s H C cl fp => by
            have hB := hX.blk s H C cl fp (bs := bs)
            refine pg_ck (X := X.blk s H bs (compEnvC bs cl C X.env) fp) (N := N) ?_ hB.hN hB.nd hB.calm
            rw [hB.sc, hB.fb]
            exact h63)
          (fun s H C cl fp => sndC q h7 (hX.blk s H C cl fp)) (fun s H C cl fp => (sndE el h8 (hX.blk s H C cl fp)).pe) (plain_set h5) (fun env => plain_set h62)
        rw [h2] at q1
        exact .gen (PE.imp q1 fun _ _ _ z => rd_lc2 h3 h31 z) rfl
    | _ => exact Bool.noConfusion (show false = true from h)
  | .frz a, X, sc, fb, W, e, h, hX => by
    refine ⟨PE.imp (sndE a h hX).pe fun _ _ _ z => rd_frz z, fun z => (by cases z), fun _ _ _ _ z => by cases z⟩
  | .fld a f, X, sc, fb, W, e, h, hX => by
    cases e with
    | Attribute x n pos =>
      have h' : (decide (f = n) && (attB x && ckE T N a sc fb x)) = true := h
      simp only [Bool.and_eq_true, decide_eq_true_eq] at h'
      obtain ⟨rfl, h2, h3⟩ := h'
      exact .gen (PE.imp (pe_xg (sndE a h3 hX).pe (att_base h2)) fun _ _ _ z => rd_fld hX.g.ex z) rfl
    | _ => exact Bool.noConfusion (show false = true from h)
  | .mk k f es, X, sc, fb, W, e, h, hX => by
    cases e <;> exact Bool.noConfusion (show false = true from h)
  | .mc k m f a es, X, sc, fb, W, e, h, hX => by
    cases e <;> exact Bool.noConfusion (show false = true from h)
theorem sndEs : ∀ (es : Es) {X : Cx} {sc : Scope} {fb : Str → Bool} {W : WX} {xs : List Expr}, ckEs T N es sc fb xs = true → XC T P cA lv X N sc fb W → PA X xs (tA X.K cA P W es)
  | .nil, X, sc, fb, W, xs, h, hX => by
    cases xs with
    | nil =>
      refine PA.imp pa_nil ?_
      rintro σ H Q ⟨c, e, s, r, re, h⟩
      exact h.ok r [] .nil
    | cons x xs => exact Bool.noConfusion (show false = true from h)
  | .cons a es, X, sc, fb, W, xs, h, hX => by
    cases xs with
    | nil => exact Bool.noConfusion (show false = true from h)
    | cons x xs =>
      have h' : ((ckE T N a sc fb x && plainE x) && ckEs T N es sc fb xs) = true := h
      simp only [Bool.and_eq_true] at h'
      obtain ⟨⟨h1, h2⟩, h3⟩ := h'
      refine PA.imp (pa_cons (sndE a h1 hX).pe (sndEs es h3 hX) (star_cons h2)) ?_
      rintro σ H Q ⟨c, e, s, r, re, h⟩
      simp only [evs] at h
      refine (sub_e r re h fun _ _ _ _ z => z).mono fun v H1 ⟨c1, d1, s1, x1, r1, re1, v1, h1⟩ => (sub_a r1 re1 h1 fun _ _ _ _ z => z).mono fun vs H2 ⟨c2, d2, s2, x2, r2, re2, v2, h2⟩ => ?_
      exact h2.ok r2 _ (.cons (v1.mono x2) v2)
theorem sndO : ∀ (o : Eo) {X : Cx} {sc : Scope} {fb : Str → Bool} {W : WX} {x : Option Expr}, ckO T N o sc fb x = true → XC T P cA lv X N sc fb W → PO X x (tO X.K cA P W o)
  | .no, X, sc, fb, W, x, h, hX => by
    cases x with
    | none =>
      refine PO.imp po_none ?_
      rintro σ H Q ⟨c, e, s, r, re, h⟩
      exact h.ok r
    | some x => exact Bool.noConfusion (show false = true from h)
  | .so a, X, sc, fb, W, x, h, hX => by
    cases x with
    | none => exact Bool.noConfusion (show false = true from h)
    | some x =>
      refine PO.imp (po_some (sndE a h hX).pe) ?_
      rintro σ H Q ⟨c, e, s, r, re, h⟩
      simp only [evo] at h
      refine (sub_e r re h fun _ _ _ _ z => z).mono fun v H1 ⟨c1, d1, s1, x1, r1, re1, v1, h1⟩ => ?_
      obtain ⟨i, e1, h1⟩ := h1.rOr
      exact ⟨i, dInt_v e1 v1, h1.ok r1⟩
theorem sndC : ∀ (o : Eo) {X : Cx} {sc : Scope} {fb : Str → Bool} {W : WX} {x : List Expr}, ckC T N o sc fb x = true → XC T P cA lv X N sc fb W → PTs X x (tC1 X.K cA P W o)
  | .no, X, sc, fb, W, x, h, hX => by
    cases x with
    | nil =>
      refine PTs.imp pts_nil ?_
      rintro σ H Q ⟨c, e, s, r, re, h⟩
      exact h.ok r
    | cons y x => exact Bool.noConfusion (show false = true from h)
  | .so a, X, sc, fb, W, x, h, hX => by
    match x, h with
    | [x], h =>
      have h' : (ckE T N a sc fb x && tstB a) = true := h
      simp only [Bool.and_eq_true] at h'
      exact PTs.imp (pts_one ((sndE a h'.1 hX).pt h'.2)) fun _ _ _ z => tT_C z
    | [], h => exact Bool.noConfusion (show false = true from h)
    | _ :: _ :: _, h => exact Bool.noConfusion (show false = true from h)
theorem sndI : ∀ (i : It) {X : Cx} {sc : Scope} {fb : Str → Bool} {W : WX} {t x : Expr}, ckI T N i sc fb t x = true → XC T P cA lv X N sc fb W → PI X t x (tI X.K cA P W i)
  | .seq a, X, sc, fb, W, t, x, h, hX => by
    have pa := (sndE a h hX).pe
    refine PI.imp (PI.or (pi_list pa) (PI.or (pi_tup pa) (pi_str pa))) ?_
    rintro σ H R ⟨c, e, s, r, re, h⟩
    simp only [evi] at h
    cases q : ev P a e s with
    | bad => rw [q] at h; exact h.elim
    | exc y s1 =>
      refine .inl ⟨c, e, s, r, re, ?_⟩
      rw [q] at h ⊢
      exact h
    | ok d s1 =>
      have h1 := h
      rw [q] at h1
      simp only [G.R.bind_ok] at h1
      cases d with
      | o n => exact h1.elim
      | s l => exact h1.elim
      | p d =>
        cases d with
        | list ds =>
          refine .inl (tE_at (A := fun _ _ _ => True) r re q fun v H1 c1 x1 r1 re1 v1 => ?_)
          cases v1 with
          | lst g1 g2 => exact ⟨_, rfl, ⟨_, SqL.of (r1.sub _ _ g1)⟩, h1 c1 H1 x1 r1 _ (jok_list g1 g2)⟩
        | tuple ds =>
          refine .inr (.inl (tE_at (A := fun _ _ _ => True) r re q fun v H1 c1 x1 r1 re1 v1 => ?_))
          cases v1 with
          | tup g1 g2 => exact ⟨_, rfl, ⟨_, seqT_mono r1.sub g1⟩, h1 c1 H1 x1 r1 _ (jok_tup g1 g2)⟩
        | str z =>
          refine .inr (.inr (tE_at (A := fun _ _ _ => True) r re q fun v H1 c1 x1 r1 re1 v1 => ?_))
          cases v1
          exact ⟨z, rfl, h1 c1 H1 x1 r1 _ jok_str⟩
        | none => exact h1.elim
        | bool b => exact h1.elim
        | int b => exact h1.elim
        | dict b => exact h1.elim
  | .rng a, X, sc, fb, W, t, x, h, hX => by
    cases x with
    | Call fn args kws pos =>
      cases fn with
      | Name x p =>
        match args, kws, h with
        | [y], [], h =>
          have h' : (decide (x = "range") && blB T sc x && (ckE T N a sc fb y && plainE y)) = true := h
          simp only [Bool.and_eq_true, decide_eq_true_eq] at h'
          obtain ⟨⟨h1, h2⟩, h3, h4⟩ := h'
          subst h1
          obtain ⟨g1, g2, g3, g4⟩ := blB_ok h2 hX
          refine PI.imp (pi_range1 g1 g2 (pa_cons (sndE a h3 hX).pe pa_nil (star_cons h4)) (star_cons h4)) ?_
          rintro σ H R ⟨c, e, s, r, re, h⟩
          simp only [evi] at h
          refine (sub_e r re h fun _ _ _ _ z => z).mono fun v H1 ⟨c1, d1, s1, x1, r1, re1, v1, h1⟩ => ?_
          obtain ⟨i, e1, h1⟩ := h1.rOr
          obtain ⟨⟨l1, l2⟩, h1⟩ := h1.if_
          have : (LIM : Int) = 1000000 := rfl
          exact ⟨i, by rw [dInt_v e1 v1], by omega, by omega, h1.ok r1 _ (jok_rng fun k => by omega)⟩
        | [], _, h => exact Bool.noConfusion (show false = true from h)
        | [_], _ :: _, h => exact Bool.noConfusion (show false = true from h)
        | _ :: _ :: _, [], h => exact Bool.noConfusion (show false = true from h)
        | _ :: _ :: _, _ :: _, h => exact Bool.noConfusion (show false = true from h)
      | _ => exact Bool.noConfusion (show false = true from h)
    | _ => exact Bool.noConfusion (show false = true from h)
  | .rng2 a b, X, sc, fb, W, t, x, h, hX => by
    cases x with
    | Call fn args kws pos =>
      cases fn with
      | Name x p =>
        match args, kws, h with
        | [y, z], [], h =>
          have h' : (decide (x = "range") && blB T sc x && (ckE T N a sc fb y && plainE y && (ckE T N b sc fb z && plainE z))) = true := h
          simp only [Bool.and_eq_true, decide_eq_true_eq] at h'
          obtain ⟨⟨h1, h2⟩, ⟨h3, h4⟩, h5, h6⟩ := h'
          subst h1
          obtain ⟨g1, g2, g3, g4⟩ := blB_ok h2 hX
          have s2 : starEach [z] X.env = [(false, eval z X.env)] := star_cons h6
          refine PI.imp (pi_range2 g1 g2 (pa_cons (sndE a h3 hX).pe (pa_cons (sndE b h5 hX).pe pa_nil (star_cons h6)) (star_cons h4)) (by rw [star_cons h4, s2]) s2) ?_
          rintro σ H R ⟨c, e, s, r, re, h⟩
          simp only [evi] at h
          refine (sub_e r re h fun _ _ _ _ z => z).mono fun v H1 ⟨c1, d1, s1, x1, r1, re1, v1, h1⟩ => (sub_e r1 re1 h1 fun _ _ _ _ z => z).mono fun w H2 ⟨c2, d2, s2, x2, r2, re2, v2, h2⟩ => ?_
          obtain ⟨i, e1, h2⟩ := h2.rOr
          obtain ⟨j, e2, h2⟩ := h2.rOr
          obtain ⟨⟨l1, l2, l3, l4⟩, h2⟩ := h2.if_
          have : (LIM : Int) = 1000000 := rfl
          exact ⟨i, j, by rw [dInt_v e1 (v1.mono x2), dInt_v e2 v2], ⟨by omega, by omega, by omega, by omega⟩, h2.ok r2 _ (jok_rng fun k => rfl)⟩
        | [], _, h => exact Bool.noConfusion (show false = true from h)
        | [_], _, h => exact Bool.noConfusion (show false = true from h)
        | [_, _], _ :: _, h => exact Bool.noConfusion (show false = true from h)
        | _ :: _ :: _ :: _, [], h => exact Bool.noConfusion (show false = true from h)
        | _ :: _ :: _ :: _, _ :: _, h => exact Bool.noConfusion (show false = true from h)
      | _ => exact Bool.noConfusion (show false = true from h)
    | _ => exact Bool.noConfusion (show false = true from h)
  | .enu a, X, sc, fb, W, t, x, h, hX => by
    cases t with
    | Tuple ts tk tp =>
      cases x with
      | Call fn args kws pos =>
        cases fn with
        | Name x p =>
          match args, kws, h with
          | [y], [], h =>
            have h' : (decide (x = "enumerate") && blB T sc x && (ckE T N a sc fb y && plainE y)) = true := h
            simp only [Bool.and_eq_true, decide_eq_true_eq] at h'
            obtain ⟨⟨h1, h2⟩, h3, h4⟩ := h'
            subst h1
            obtain ⟨g1, g2, g3, g4⟩ := blB_ok h2 hX
            refine PI.imp (pi_enum g1 g2 (pa_cons (sndE a h3 hX).pe pa_nil (star_cons h4)) (star_cons h4)) ?_
            rintro σ H R ⟨c, e, s, r, re, h⟩
            simp only [evi] at h
            refine (sub_e r re h fun _ _ _ _ z => z).mono fun v H1 ⟨c1, d1, s1, x1, r1, re1, v1, h1⟩ => ?_
            cases d1 with
            | o n => exact h1.elim
            | s l => exact h1.elim
            | p d =>
              cases d with
              | list ds =>
                cases v1 with
                | lst k1 k2 => exact ⟨_, _, rfl, SqL.of (r1.sub _ _ k1), h1.ok r1 _ (jok_enum k1 k2)⟩
              | _ => exact h1.elim
          | [], _, h => exact Bool.noConfusion (show false = true from h)
          | [_], _ :: _, h => exact Bool.noConfusion (show false = true from h)
          | _ :: _ :: _, [], h => exact Bool.noConfusion (show false = true from h)
          | _ :: _ :: _, _ :: _, h => exact Bool.noConfusion (show false = true from h)
        | _ => exact Bool.noConfusion (show false = true from h)
      | _ => exact Bool.noConfusion (show false = true from h)
    | _ => cases x <;> exact Bool.noConfusion (show false = true from h)
end
end
end
end G

namespace G
open PySem PySem.Spec PyProof.Rows L2
open Classical
noncomputable section
/-! ### statements -/
def PostS (K : PySem.W.Frag) (cA : Nat → Addr) (W : WX) (c : Cf) (H : Hp) (r : RS) (B : Ends) : Prop := match r with
  | .nx e s => ∀ c' H' σ', Ext c H c' H' → Rep K cA c' H' s → RelE K c' e σ' → B.nx σ' H'
  | .bk e s => ∀ c' H' σ', Ext c H c' H' → Rep K cA c' H' s → RelE K c' e σ' → B.bk σ' H'
  | .ct e s => ∀ c' H' σ', Ext c H c' H' → Rep K cA c' H' s → RelE K c' e σ' → B.ct σ' H'
  | .rt d s => ∀ c' H' v, Ext c H c' H' → Rep K cA c' H' s → RepV K c' d v → B.rt v H'
  | .exc x e s => ∀ c' H' σ', Ext c H c' H' → Rep K cA c' H' s → RelE K c' e σ' → WW K cA W σ' x s c' H'
  | .bad => False
section
variable {α : Type} {K : PySem.W.Frag} {cA : Nat → Addr} {P : Pg} {W : WX} {c c' : Cf} {H H' : Hp} {s : Sto} {e : Env} {σ : L2.St} {B B' : Ends}
theorem PostS.mono {r : RS} (x : Ext c H c' H') (h : PostS K cA W c H r B) : PostS K cA W c' H' r B := by
  cases r with
  | nx e s => exact fun c2 H2 σ2 x2 => h c2 H2 σ2 (x.trans x2)
  | bk e s => exact fun c2 H2 σ2 x2 => h c2 H2 σ2 (x.trans x2)
  | ct e s => exact fun c2 H2 σ2 x2 => h c2 H2 σ2 (x.trans x2)
  | rt e s => exact fun c2 H2 v x2 => h c2 H2 v (x.trans x2)
  | exc y e s => exact fun c2 H2 σ2 x2 => h c2 H2 σ2 (x.trans x2)
  | bad => exact h
theorem PostS.toS {r : R α} {f : α → Sto → RS} (re : RelE K c e σ) (h : PostS K cA W c H (G.toS r e f) B) : Post K cA c H r (fun a s' c' H' => PostS K cA W c' H' (f a s') B) (WW K cA W σ) := by
  cases r with
  | ok a s => exact fun c2 H2 x _ => PostS.mono (r := f a s) x h
  | exc y s => exact fun c2 H2 x r => h c2 H2 σ x r (re.mono x)
  | bad => exact h
theorem PostS.nxt {r : RS} {f : Env → Sto → RS} (h : PostS K cA W c H (r.nxt f) B) : PostS K cA W c H r { B with nx := fun σ' H' => ∃ c' e' s', Ext c H c' H' ∧ Rep K cA c' H' s' ∧ RelE K c' e' σ' ∧ PostS K cA W c' H' (f e' s') B } := by
  cases r with
  | nx e s => exact fun c2 H2 σ2 x2 r2 re2 => ⟨c2, e, s, x2, r2, re2, PostS.mono (r := f e s) x2 h⟩
  | bk e s => exact h
  | ct e s => exact h
  | rt e s => exact h
  | exc y e s => exact h
  | bad => exact h
theorem PostS.nx {e : Env} (h : PostS K cA W c H (.nx e s) B) (r : Rep K cA c H s) (re : RelE K c e σ) : B.nx σ H := h c H σ (Ext.refl _ _) r re
def tS (K : PySem.W.Frag) (cA : Nat → Addr) (P : Pg) (W : WX) (m : S) : TS := fun B σ H => ∃ c e s, Rep K cA c H s ∧ RelE K c e σ ∧ PostS K cA W c H (exe P m e s) B
def tSs (K : PySem.W.Frag) (cA : Nat → Addr) (P : Pg) (W : WX) (m : Ss) : TS := fun B σ H => ∃ c e s, Rep K cA c H s ∧ RelE K c e σ ∧ PostS K cA W c H (exs P m e s) B
theorem se_ {m : E} {f : D → Sto → RS} (r : Rep K cA c H s) (re : RelE K c e σ) (h : PostS K cA W c H (G.toS (ev P m e s) e f) B) :
    tE K cA P W m σ H (fun v H' => ∃ c' d s', Ext c H c' H' ∧ Rep K cA c' H' s' ∧ RelE K c' e σ ∧ RepV K c' d v ∧ PostS K cA W c' H' (f d s') B) :=
  ⟨c, e, s, r, re, (PostS.toS re h).imp (fun d s' c' H' x q z v hv => ⟨c', d, s', x, q, re.mono x, hv, z⟩) fun _ _ _ _ _ _ z => z⟩
theorem rd_ex {a : E} (h : tS K cA P W (.ex a) B σ H) : tDrop (tE K cA P W a) B σ H := by
  obtain ⟨c, e, s, r, re, h⟩ := h
  simp only [exe] at h
  exact (se_ r re h).mono fun v H1 ⟨c1, d, s1, x1, r1, re1, hv, h1⟩ => h1.nx r1 re1
theorem rd_ret {a : E} (h : tS K cA P W (.ret a) B σ H) : tRet (tE K cA P W a) B σ H := by
  obtain ⟨c, e, s, r, re, h⟩ := h
  simp only [exe] at h
  exact (se_ r re h).mono fun v H1 ⟨c1, d, s1, x1, r1, re1, hv, h1⟩ => h1 c1 H1 v (Ext.refl _ _) r1 hv
theorem rd_retN (h : tS K cA P W .retN B σ H) : tRetN B σ H := by
  obtain ⟨c, e, s, r, re, h⟩ := h
  exact h c H .non (Ext.refl _ _) r Dq.non
theorem bindS_ {tg : Tg} {x : Item} {f : Env → RS} (h : PostS K cA W c H (bindS tg x s e f) B) : ∃ e', bindT tg x s e = some e' ∧ PostS K cA W c H (f e') B := by
  unfold bindS at h
  cases q : bindT tg x s e with
  | none => rw [q] at h; exact h.elim
  | some e' => rw [q] at h; exact ⟨e', rfl, h⟩
theorem rd_asg {tg : Tg} {a : E} (h : tS K cA P W (.asg tg a) B σ H) : tE K cA P W a σ H fun v H1 => tG K cA tg v σ H1 B.nx := by
  obtain ⟨c, e, s, r, re, h⟩ := h
  simp only [exe] at h
  refine (se_ r re h).mono fun v H1 ⟨c1, d, s1, x1, r1, re1, hv, h1⟩ => ?_
  obtain ⟨e', hb, h1⟩ := bindS_ h1
  exact ⟨c1, e, s1, .one d, r1, re1, hv, e', hb, fun σ' re' _ => h1.nx r1 re'⟩
theorem rd_asgN {i : Nat} {a : E} (h : tS K cA P W (.asg (.nm i) a) B σ H) : tE K cA P W a σ H fun v H1 => gName i v σ H1 B.nx := by
  obtain ⟨c, e, s, r, re, h⟩ := h
  simp only [exe] at h
  refine (se_ r re h).mono fun v H1 ⟨c1, d, s1, x1, r1, re1, hv, h1⟩ => ?_
  obtain ⟨e', hb, h1⟩ := bindS_ h1
  simp only [bindT] at hb
  split at hb
  · cases hb
    exact h1.nx r1 (re1.set hv)
  · cases hb
theorem rd_seti {a i x : E} (h : tS K cA P W (.seti a i x) B σ H) : tAsg (tE K cA P W x) (gSub (tE K cA P W a) (tE K cA P W i) (rSetG K cA)) B σ H := by
  obtain ⟨c, e, s, r, re, h⟩ := h
  simp only [exe] at h
  refine (se_ r re h).mono fun v H1 ⟨c1, d1, s1, x1, r1, re1, v1, h1⟩ => (se_ r1 re1 h1).mono fun o H2 ⟨c2, d2, s2, x2, r2, re2, v2, h2⟩ => (se_ r2 re2 h2).mono fun j H3 ⟨c3, d3, s3, x3, r3, re3, v3, h3⟩ => ?_
  exact ⟨c3, d2, d3, d1, s3, _, r3, v2.mono x3, v3, v1.mono (x2.trans x3), (PostS.toS re3 h3).imp (fun _ s' c' H' x' r' z => z.nx r' (re3.mono x')) fun _ _ _ _ _ _ z => z⟩
theorem rd_ifs {t : E} {a b : Ss} (h : tS K cA P W (.ifs t a b) B σ H) : tIfS (tT K cA P W t) (tSs K cA P W a) (tSs K cA P W b) B σ H := by
  obtain ⟨c, e, s, r, re, h⟩ := h
  simp only [exe] at h
  refine tT_C ⟨c, e, s, r, re, (PostS.toS re h).imp (fun q s1 c1 H1 x1 r1 z => ?_) fun _ _ _ _ _ _ z => z⟩
  cases q with
  | false =>
    rw [if_neg Bool.false_ne_true] at z ⊢
    exact ⟨c1, e, s1, r1, re.mono x1, z⟩
  | true =>
    rw [if_pos rfl] at z ⊢
    exact ⟨c1, e, s1, r1, re.mono x1, z⟩
/-- name += .., name -= .. -/
def augF : Bop → Int → Int → Int
  | .add => fun i j => i + j
  | _ => fun i j => i - j
theorem rd_aug {i : Nat} {op : Bop} {a : E} (h : tS K cA P W (.aug i op a) B σ H) : tAug i (tE K cA P W a) (ipI (augF op)) B σ H := by
  obtain ⟨c, e, s, r, re, h⟩ := h
  simp only [exe] at h
  split at h
  · rename_i d q
    obtain ⟨x, k1, k2⟩ := re.2 i d q
    refine ⟨x, k1, (se_ r re h).mono fun v H1 ⟨c1, d1, s1, x1, r1, re1, v1, h1⟩ => ?_⟩
    cases ej : dInt d with
    | none => rw [ej] at h1; cases op <;> exact h1.elim
    | some j =>
      cases ek : dInt d1 with
      | none => rw [ej, ek] at h1; cases op <;> exact h1.elim
      | some k =>
        rw [ej, ek] at h1
        refine ⟨j, k, dInt_v ej (k2.mono x1), dInt_v ek v1, ?_⟩
        cases op <;> first | exact h1.elim | exact h1.nx r1 (re1.set ok_int)
  · exact h.elim
/-- raise X('..') -/
theorem rd_raiseM {k : Nat} (h : tS K cA P W (.raiseM k) B σ H) : W (.ref (cA k)) none σ H := by
  obtain ⟨c, e, s, r, re, h⟩ := h
  exact h c H σ (Ext.refl _ _) r re _ _ ⟨rfl, rfl⟩
/-- raise X(e) -/
theorem rd_raiseV {k f : Nat} {a : E} (T : OexC K (cA k)) (hno : PySem.W.findIn K (.ref (cA k)) "wrong" = some none) (h : tS K cA P W (.raiseV k f a) B σ H) : tMkO (cA k) (spIni K) [] (tCons (tE K cA P W a) tNil) σ H (fun cls d H' => W cls d σ H') := by
  obtain ⟨c, e, s, r, re, h⟩ := h
  simp only [exe] at h
  refine (se_ r re h).mono fun w H1 ⟨c1, d1, s1, x1, r1, re1, v1, h1⟩ => ?_
  refine ⟨by simp, fun p hp => ⟨p, cA k, w, rfl, T, hno, upd_same, fun dx hdx ne => ⟨rfl, dx, [(("wrong" : Str), w)], upd_same, ?_, ?_, ?_⟩⟩⟩
  · rw [upd_ne ne]
    exact upd_same
  · exact (upd_ne (H := H1) ne).symm.trans hdx
  · have n1 : H1 dx = none := (upd_ne (H := H1) ne).symm.trans hdx
    obtain ⟨f1, f2⟩ := r1.fresh n1
    have eH : upd (del (upd (upd (upd H1 p (exo p (cA k) none)) dx (exd dx [(("wrong" : Str), w)])) p (exo p (cA k) (some dx))) p) dx (.xd [(("wrong" : Str), w)]) = upd H1 dx (.xd [(("wrong" : Str), w)]) := by
      funext b
      by_cases h1 : b = dx
      · rw [h1, upd_same, upd_same]
      · rw [upd_ne h1, upd_ne h1]
        by_cases h2 : b = p
        · rw [h2, del_same, hp]
        · rw [del_ne h2, upd_ne h2, upd_ne h1, upd_ne h2]
    rw [eH]
    have x2 : Ext c1 H1 ⟨upd c1.F dx (.xd [(("wrong" : Str), w)]), c1.ι⟩ (upd H1 dx (.xd [(("wrong" : Str), w)])) := (Ext.grow n1).adF f1 n1
    exact h1 _ _ σ x2 ((r1.grow n1).adF upd_same f1 f2) (re1.mono x2) _ _ ⟨rfl, dx, w, rfl, upd_same, v1.mono x2⟩
/-- try: .. except K as x: caught = x -/
theorem rd_tryC {b : Ss} {k x i : Nat} {xs : List (Str × Bool)} {mg : Str → Option Value} (F : ExF K mg cA xs P.sb) (h : tS K cA P W (.tryC b k x i) B σ H) : tSs K cA P (wKp K (.ref (cA k)) x (tAsg (tVar x) (gName i)) W B) b B σ H := by
  obtain ⟨c, e, s, r, re, h⟩ := h
  simp only [exe] at h
  refine ⟨c, e, s, r, re, ?_⟩
  cases q : exs P b e s with
  | nx e1 s1 => rw [q] at h; exact h
  | bk e1 s1 => rw [q] at h; exact h
  | ct e1 s1 => rw [q] at h; exact h
  | rt d s1 => rw [q] at h; exact h
  | bad => rw [q] at h; exact h
  | exc y e1 s1 =>
    rw [q] at h
    dsimp only at h
    intro c1 H1 σ1 x1 r1 re1 cls dd hx
    cases z : P.sb y.c k with
    | none => rw [z] at h; exact h.elim
    | some b' =>
      rw [z] at h
      obtain ⟨f1, f2, f3⟩ := F.ea _ _ _ z
      obtain ⟨rfl, hx2⟩ := hx
      refine ⟨b', f2, fun hb a na => ?_, fun hb => ?_⟩
      · subst hb
        dsimp only at h
        refine ⟨cA y.c, rfl, ?_⟩
        obtain ⟨f1, f2⟩ := r1.fresh na
        have x2 : Ext c1 H1 ⟨c1.F, c1.ι ++ [a]⟩ (upd H1 a (exnO a (cA y.c) dd)) := (Ext.grow na).adC na
        have r2 : Rep K cA ⟨c1.F, c1.ι ++ [a]⟩ (upd H1 a (exnO a (cA y.c) dd)) (s1 ++ [some (.exn y.c y.pl)]) := (r1.grow na).adC upd_same f1 f2 ⟨dd, rfl, by
          cases ep : y.pl with
          | none => rw [ep] at hx2; exact hx2
          | some d =>
            rw [ep] at hx2
            obtain ⟨b, v, k1, k2, k3⟩ := hx2
            exact ⟨b, v, k1, k2, RepV.mono x2 k3⟩⟩
        have rv : RepV K ⟨c1.F, c1.ι ++ [a]⟩ (.o s1.length) (.ref a) := ⟨a, by
          show (c1.ι ++ [a])[s1.length]? = some a
          rw [List.getElem?_append_right (by rw [r1.len]; exact Nat.le_refl _), r1.len, Nat.sub_self]
          rfl, rfl⟩
        have re2 := re1.mono x2
        by_cases hlt : x < e1.length
        · rw [if_pos hlt] at h
          exact ⟨_, List.getElem?_set_self (by rw [← re1.1]; exact hlt), h _ _ _ (x1.trans x2) r2 (((re2.set rv).set rv).unset)⟩
        · rw [if_neg hlt] at h
          exact h.elim
      · subst hb
        dsimp only at h
        exact h c1 H1 σ1 x1 r1 re1 _ _ ⟨rfl, hx2⟩
theorem rd_for {tg : Tg} {it : It} {b : Ss} (h : tS K cA P W (.for_ tg it b) B σ H) : tFor (tI K cA P W it) (tG K cA tg) (tSs K cA P W b) B σ H := by
  obtain ⟨c, e, s, r, re, h⟩ := h
  simp only [exe] at h
  refine ⟨c, e, s, r, re, (PostS.toS re h).imp (fun items s1 c1 H1 x1 r1 h1 J j1 => ?_) fun _ _ _ _ _ _ z => z⟩
  refine ⟨fun i m σ' H' => m = items.length - i ∧ i ≤ items.length ∧ ∃ c' e' s', Ext c1 H1 c' H' ∧ Rep K cA c' H' s' ∧ RelE K c' e' σ' ∧ PostS K cA W c' H' (forL (fun x e1 s2 => bindS tg x s2 e1 fun e2 => exs P b e2 s2) (items.drop i) e' s') B, ⟨items.length, rfl, Nat.zero_le _, c1, e, s1, Ext.refl _ _, r1, re.mono x1, h1⟩, ?_⟩
  rintro i m σ2 H2 ⟨rfl, hi, c2, e2, s2, x2, r2, re2, h2⟩
  obtain ⟨j2, j3, j4⟩ := j1 c2 H2 s2 x2.f r2 i
  by_cases hlt : i < items.length
  · refine .inr ⟨j2 hlt, fun σ' H' => ∃ c' e' s', Ext c1 H1 c' H' ∧ Rep K cA c' H' s' ∧ RelE K c' e' σ' ∧ PostS K cA W c' H' (forL (fun x e1 s2 => bindS tg x s2 e1 fun e2 => exs P b e2 s2) (items.drop (i + 1)) e' s') B, fun σ' H' z => ⟨_, by omega, rfl, hlt, z⟩, fun v H3 hy => ?_⟩
    rw [List.drop_eq_getElem_cons hlt] at h2
    simp only [forL] at h2
    obtain ⟨c3, x3, r3, v3⟩ := j3 items[i] (List.getElem?_eq_getElem hlt) v H3 hy
    cases eb : bindT tg items[i] s2 e2 with
    | none =>
      unfold bindS at h2
      rw [eb] at h2
      exact h2.elim
    | some e3 =>
      unfold bindS at h2
      rw [eb] at h2
      dsimp only at h2
      refine ⟨c3, e2, s2, items[i], r3, re2.mono x3, v3, e3, eb, fun σ3 re3 _ => ⟨c3, e3, s2, r3, re3, ?_⟩⟩
      have x13 := x2.trans x3
      cases q : exs P b e3 s2 with
      | nx e4 s4 =>
        rw [q] at h2
        exact fun c4 H4 σ4 x4 r4 re4 => ⟨c4, e4, s4, x13.trans x4, r4, re4, h2.mono (x3.trans x4)⟩
      | ct e4 s4 =>
        rw [q] at h2
        exact fun c4 H4 σ4 x4 r4 re4 => ⟨c4, e4, s4, x13.trans x4, r4, re4, h2.mono (x3.trans x4)⟩
      | bk e4 s4 =>
        rw [q] at h2
        exact fun c4 H4 σ4 x4 r4 re4 => h2 c4 H4 σ4 (x3.trans x4) r4 re4
      | rt d s4 =>
        rw [q] at h2
        exact fun c4 H4 v4 x4 r4 hv4 => h2 c4 H4 v4 (x3.trans x4) r4 hv4
      | exc y e4 s4 =>
        rw [q] at h2
        exact fun c4 H4 σ4 x4 r4 re4 => h2 c4 H4 σ4 (x3.trans x4) r4 re4
      | bad =>
        rw [q] at h2
        exact h2
  · have ei : i = items.length := by omega
    subst ei
    rw [List.drop_length] at h2
    exact .inl ⟨j4 rfl, h2.nx r2 re2⟩
theorem rd_whl {t : E} {b : Ss} (h : tS K cA P W (.whl t b) B σ H) : tWhile (tT K cA P W t) (tSs K cA P W b) B σ H := by
  obtain ⟨c, e, s, r, re, h⟩ := h
  simp only [exe] at h
  refine ⟨fun m σ' H' => ∃ c' e' s', Rep K cA c' H' s' ∧ RelE K c' e' σ' ∧ PostS K cA W c' H' (whlL (fun e1 s1 => evc P (.so t) e1 s1) (fun e1 s1 => exs P b e1 s1) m e' s') B, ⟨P.W, c, e, s, r, re, h⟩, ?_⟩
  rintro m σ1 H1 ⟨c1, e1, s1, r1, re1, h1⟩
  cases m with
  | zero => exact h1.elim
  | succ m =>
    simp only [whlL] at h1
    refine tT_C ⟨c1, e1, s1, r1, re1, (PostS.toS re1 h1).imp (fun q s2 c2 H2 x2 r2 z => ?_) fun _ _ _ _ _ _ z => z⟩
    have re2 := re1.mono x2
    cases q with
    | false =>
      rw [if_neg Bool.false_ne_true] at z
      exact iteF (z.nx r2 re2)
    | true =>
      rw [if_pos rfl] at z
      refine iteT ?_
      refine ⟨fun σ' H' => ∃ c' e' s', Rep K cA c' H' s' ∧ RelE K c' e' σ' ∧ PostS K cA W c' H' (whlL (fun e1 s1 => evc P (.so t) e1 s1) (fun e1 s1 => exs P b e1 s1) m e' s') B, fun σ' H' z => ⟨m, Nat.lt_succ_self _, z⟩, c2, e1, s2, r2, re2, ?_⟩
      cases q : exs P b e1 s2 with
      | nx e4 s4 =>
        rw [q] at z
        exact fun c4 H4 σ4 x4 r4 re4 => ⟨c4, e4, s4, r4, re4, z.mono x4⟩
      | ct e4 s4 =>
        rw [q] at z
        exact fun c4 H4 σ4 x4 r4 re4 => ⟨c4, e4, s4, r4, re4, z.mono x4⟩
      | bk e4 s4 => rw [q] at z; exact z
      | rt d s4 => rw [q] at z; exact z
      | exc y e4 s4 => rw [q] at z; exact z
      | bad => rw [q] at z; exact z
end

/-! ### does the mini-text tell the statement? -/
def lcB : Expr → Bool
  | .ListComp .. => true
  | .SetComp .. => true
  | .DictComp .. => true
  | _ => false
theorem lcB_sw {x : Expr} {tg : Option Expr} {l : Nat} {env : PySem.Env} (h : lcB x = false) : swapsWith x tg l env = pure false := by
  cases x <;> first | rfl | exact Bool.noConfusion (show true = false from h)
def tupB : Expr → Bool
  | .Tuple .. => true
  | _ => false
theorem tupB_st {x tg : Expr} {env : PySem.Env} (h : tupB x = false) : swappedStores [tg] x env = pure none := by
  cases x <;> first | exact Bool.noConfusion (show true = false from h) | (cases tg <;> rfl)
def tuptgB : Expr → Bool
  | .Tuple .. => true
  | _ => false
theorem tuptg_each {tg : Expr} {env : PySem.Env} (h : tuptgB tg = true) : (assignEach [tg] env).map (·.2) = [assign tg env] := by
  cases tg <;> first | rfl | exact Bool.noConfusion (show false = true from h)
def augB : Bop → Operator → Bool
  | .add, .Add => true
  | .sub, .Sub => true
  | _, _ => false
/-- name = [..] on one row -/
def swB (sc : Scope) (y : Str) (l sl : Nat) : Expr → Bool
  | .ListComp _ _ bs pos => sc.kind == .function && decide (sc.names.lookup y = some .local) && (l == pos.line) && !(bs.names.any fun (n, k) => n == y && (k == .local || k == .cell))
  | _ => false
def raB : Stmt → Option (Str × List Expr)
  | .Raise (some (.Call (.Name x _) ys [] _)) none _ => some (x, ys)
  | _ => none
theorem raB_ok {st : Stmt} {x : Str} {ys : List Expr} (h : raB st = some (x, ys)) : ∃ p p2 pos, st = .Raise (some (.Call (.Name x p) ys [] p2)) none pos := by
  unfold raB at h
  split at h
  · cases h
    exact ⟨_, _, _, rfl⟩
  · cases h
def msB : List Expr → Bool
  | [.Constant (.str _) _ _] => true
  | _ => false
theorem msB_ok {ys : List Expr} (h : msB ys = true) : ∃ m j p, ys = [.Constant (.str m) j p] := by
  unfold msB at h
  split at h
  · exact ⟨_, _, _, rfl⟩
  · cases h
def trB : Stmt → Option (List Stmt × Str × Str × Str × Str)
  | .Try body [.ExceptHandler (some (.Name c _)) (some n) [.Assign [.Name m _] (.Name n' _) _] _] [] [] _ => some (body, c, n, m, n')
  | _ => none
theorem trB_ok {st : Stmt} {body : List Stmt} {c n m n' : Str} (h : trB st = some (body, c, n, m, n')) : ∃ p1 p2 p3 p4 p5 p6, st = .Try body [.ExceptHandler (some (.Name c p1)) (some n) [.Assign [.Name m p2] (.Name n' p3) p4] p5] [] [] p6 := by
  unfold trB at h
  split at h
  · cases h
    exact ⟨_, _, _, _, _, _, rfl⟩
  · cases h
structure XS (T : Tb) (P : Pg) (cA : Nat → Addr) (lv : Nat) (X : Cx) (N : List Str) (sc : Scope) (fb : Str → Bool) (W : WX) : Prop extends XC T P cA lv X N sc fb W where
  hp : PassesOwn (model X.prog X.w) X.A X.env X.xe
  hs : X.stack = X.env :: X.outer
  hf : X.env.frame = some X.env.locals
  hx : X.ex = []
variable (T : Tb) (N : List Str)
mutual
def ckS : S → Scope → (Str → Bool) → Stmt → Bool
  | .nv, _, _, _ => true
  | .asg (.nm i) a, sc, fb, .Assign [.Name y p] x sp => ckN N sc fb i (.Name y p) && ckE T N a sc fb x && (!lcB x || swB sc y p.line sp.line x)
  | .asg (.tp is) a, sc, fb, .Assign [.Tuple es k p] x _ => ckG N sc fb (.tp is) (.Tuple es k p) && ckE T N a sc fb x && (!lcB x && !tupB x)
  | .seti a i x, sc, fb, .Assign [.Subscript o j _] y _ => (ckE T N a sc fb o && (ckE T N i sc fb j && plainE j)) && ckE T N x sc fb y && !lcB y
  | .aug i op a, sc, fb, .AugAssign (.Name y p) o x _ => ckN N sc fb i (.Name y p) && augB op o && ckE T N a sc fb x
  | .ex a, sc, fb, .Expr x _ => ckE T N a sc fb x && !lcB x
  | .ret a, sc, fb, .Return (some x) _ => ckE T N a sc fb x
  | .retN, _, _, .Return none _ => true
  | .ifs c a b, sc, fb, .If x xs ys _ => (ckE T N c sc fb x && tstB c) && (ckSs a sc fb xs && ckSs b sc fb ys)
  | .for_ tg it b, sc, fb, .For t i xs [] _ => (ckI T N it sc fb t i && plainE i) && (ckG N sc fb tg t && ckSs b sc fb xs)
  | .whl c b, sc, fb, .While x xs [] _ => (ckE T N c sc fb x && tstB c) && ckSs b sc fb xs
  | .raiseM k, sc, _, st => (match raB st with
    | some (x, ys) => decide (T.exs[k]? = some (x, false)) && ((glB sc x && dbgB x) && msB ys)
    | none => false)
  | .raiseV k _ a, sc, fb, st => (match raB st with
    | some (x, [y]) => decide (T.exs[k]? = some (x, true)) && ((glB sc x && dbgB x) && (ckE T N a sc fb y && plainE y))
    | _ => false)
  | .tryC b k x i, sc, fb, st => (match trB st with
    | some (body, c, n, m, n') => (match T.exs[k]? with
      | some (c', _) => decide (c' = c) && (glB sc c && dbgB c)
      | none => false) && ((decide (n' = n) && (decide (N[x]? = some n) && (decide (sc.names.lookup n = some .local) && dbgB n))) && ((decide (N[i]? = some m) && decide (sc.names.lookup m = some .local)) && ckSs b sc fb body))
    | none => false)
  | .pass, _, _, .Pass _ => true
  | .brk, _, _, .Break _ => true
  | .cnt, _, _, .Continue _ => true
  | _, _, _, _ => false
def ckSs : Ss → Scope → (Str → Bool) → List Stmt → Bool
  | .nil, _, _, [] => true
  | .cons a r, sc, fb, x :: xs => ckS a sc fb x && ckSs r sc fb xs
  | _, _, _, _ => false
end
end
end G

namespace G
open PySem PySem.Spec PyProof.Rows L2
open Classical
noncomputable section
section
variable {T : Tb} {N : List Str} {P : Pg} {cA : Nat → Addr} {lv : Nat}
variable {K : PySem.W.Frag} {W : WX} {σ : L2.St} {H : Hp}
theorem swB_lc {sc : Scope} {y : Str} {l sl : Nat} {x : Expr} (h : swB sc y l sl x = true) : ∃ elt gs bs pos, x = .ListComp elt gs bs pos := by
  cases x <;> first | exact ⟨_, _, _, _, rfl⟩ | exact Bool.noConfusion (show false = true from h)
theorem swB_ok {X : Cx} {y : Str} {py spos : Pos} {elt : Expr} {gs : List Comprehension} {bs : Scope} {pos : Pos} (h : swB X.env.scope y py.line spos.line (.ListComp elt gs bs pos) = true) :
    X.env.scope.names.lookup y = some .local ∧ swapsWith (.ListComp elt gs bs pos) (some (.Name y py)) spos.line X.env = pure true := by
  have h' : (X.env.scope.kind == .function && decide (X.env.scope.names.lookup y = some .local) && (py.line == pos.line) && !(bs.names.any fun (n, k) => n == y && (k == .local || k == .cell))) = true := h
  simp only [Bool.and_eq_true, decide_eq_true_eq, Bool.not_eq_true'] at h'
  obtain ⟨⟨⟨h1, h2⟩, h3⟩, h4⟩ := h'
  have k1 : X.env.scope.kind = .function := by
    cases q : X.env.scope.kind <;> first | rfl | (rw [q] at h1; cases h1)
  exact ⟨h2, sw_true k1 h2 (by simpa using h3) h4⟩
theorem asg_lc : ∀ (m : E) {X : Cx} {sc : Scope} {fb : Str → Bool} {W : WX} {i : Nat} {y : Str} {py spos : Pos} {x : Expr}, ckE T N m sc fb x = true → XC T P cA lv X N sc fb W → X.N[i]? = some y → swB sc y py.line spos.line x = true →
    PS X (.Assign [.Name y py] x spos) (fun B σ H => tE X.K cA P W m σ H fun v H1 => gName i v σ H1 B.nx)
  | .frz a, X, sc, fb, W, i, y, py, spos, x, h, hX, hi, hw => PS.imp (asg_lc a h hX hi hw) fun _ _ _ z => rd_frz z
  | .lc fl el ow tg it q, X, sc, fb, W, i, y, py, spos, e, h, hX, hy, hw => by
    obtain ⟨x, gs, bs, pos, rfl⟩ := swB_lc hw
    match gs, h with
    | [⟨t, i, ifs, 0⟩], h =>
        have h' : (blkC N sc bs (ownOf N ow) && (decide ((ownOf N ow).map (·.2) = ow) && (tgS tg).all (fun j => decide (j ∈ ow))) &&
          (ckI T N it sc fb t i && plainE i) && (ckG N (relS bs sc) (fun x => bs.names.lookup x == some .cell) tg t && (ckC T N q (relS bs sc) (fun x => bs.names.lookup x == some .cell) ifs && ckE T N el (relS bs sc) (fun x => bs.names.lookup x == some .cell) x))) = true := h
        simp only [Bool.and_eq_true, decide_eq_true_eq, List.all_eq_true] at h'
        obtain ⟨⟨⟨h1, h2, h3⟩, h4, h5⟩, h6, h7, h8⟩ := h'
        have ok : BlkOk X.N X.env.scope bs (ownOf N ow) := by
          rw [hX.hN, hX.sc]
          exact blkOk_by h1
        rw [← hX.sc] at hw
        obtain ⟨w1, w2⟩ := swB_ok hw
        have q1 := ps_setLc (X := X) (elt := x) (tg := t) (iter := i) (ifs := ifs) (scope := bs) (own := ownOf N ow) (pos := pos) (spos := spos) (g := tG X.K cA tg) (tt := tC1 X.K cA P (fun _ _ _ _ => False) q) (te := tE X.K cA P (fun _ _ _ _ => False) el) hX.calm hX.nd hy w1 w2 (sndI it h4 hX) ok
          (fun s H C cl fp => by
            have hB := hX.blk s H C cl fp (bs := bs)
            refine pg_ck (X := X.blk s H bs (compEnvC bs cl C X.env) fp) (N := N) ?_ hB.hN hB.nd hB.calm
            rw [hB.sc, hB.fb]
            exact h6)
          (fun s H C cl fp => sndC q h7 (hX.blk s H C cl fp)) (fun s H C cl fp => (sndE el h8 (hX.blk s H C cl fp)).pe) (plain_set h5)
        rw [h2] at q1
        exact PS.imp q1 fun _ _ _ z => rd_lc h3 z
  | .nv, _, _, _, _, _, _, _, _, x, h, _, _, hw => ⟨fun pins s σ H B I z => by
    obtain ⟨c, e, s, r, re, h⟩ := z
    exact h.elim⟩
  | .v i, _, _, _, _, _, _, _, _, x, h, _, _, hw => by obtain ⟨elt, gs, bs, pos, rfl⟩ := swB_lc hw; exact Bool.noConfusion (show false = true from h)
  | .k _, _, _, _, _, _, _, _, _, x, h, _, _, hw => by obtain ⟨elt, gs, bs, pos, rfl⟩ := swB_lc hw; exact Bool.noConfusion (show false = true from h)
  | .g _, _, _, _, _, _, _, _, _, x, h, _, _, hw => by obtain ⟨elt, gs, bs, pos, rfl⟩ := swB_lc hw; exact Bool.noConfusion (show false = true from h)
  | .tup _, _, _, _, _, _, _, _, _, x, h, _, _, hw => by obtain ⟨elt, gs, bs, pos, rfl⟩ := swB_lc hw; exact Bool.noConfusion (show false = true from h)
  | .lst _ _, _, _, _, _, _, _, _, _, x, h, _, _, hw => by obtain ⟨elt, gs, bs, pos, rfl⟩ := swB_lc hw; exact Bool.noConfusion (show false = true from h)
  | .dnew, _, _, _, _, _, _, _, _, x, h, _, _, hw => by obtain ⟨elt, gs, bs, pos, rfl⟩ := swB_lc hw; exact Bool.noConfusion (show false = true from h)
  | .bin _ _ _ _, _, _, _, _, _, _, _, _, x, h, _, _, hw => by obtain ⟨elt, gs, bs, pos, rfl⟩ := swB_lc hw; exact Bool.noConfusion (show false = true from h)
  | .neg _, _, _, _, _, _, _, _, _, x, h, _, _, hw => by obtain ⟨elt, gs, bs, pos, rfl⟩ := swB_lc hw; exact Bool.noConfusion (show false = true from h)
  | .nt _, _, _, _, _, _, _, _, _, x, h, _, _, hw => by obtain ⟨elt, gs, bs, pos, rfl⟩ := swB_lc hw; exact Bool.noConfusion (show false = true from h)
  | .cmp _ _ _, _, _, _, _, _, _, _, _, x, h, _, _, hw => by obtain ⟨elt, gs, bs, pos, rfl⟩ := swB_lc hw; exact Bool.noConfusion (show false = true from h)
  | .chn _ _ _ _ _, _, _, _, _, _, _, _, _, x, h, _, _, hw => by obtain ⟨elt, gs, bs, pos, rfl⟩ := swB_lc hw; exact Bool.noConfusion (show false = true from h)
  | .an _ _, _, _, _, _, _, _, _, _, x, h, _, _, hw => by obtain ⟨elt, gs, bs, pos, rfl⟩ := swB_lc hw; exact Bool.noConfusion (show false = true from h)
  | .orr _ _, _, _, _, _, _, _, _, _, x, h, _, _, hw => by obtain ⟨elt, gs, bs, pos, rfl⟩ := swB_lc hw; exact Bool.noConfusion (show false = true from h)
  | .ife _ _ _, _, _, _, _, _, _, _, _, x, h, _, _, hw => by obtain ⟨elt, gs, bs, pos, rfl⟩ := swB_lc hw; exact Bool.noConfusion (show false = true from h)
  | .ix _ _, _, _, _, _, _, _, _, _, x, h, _, _, hw => by obtain ⟨elt, gs, bs, pos, rfl⟩ := swB_lc hw; exact Bool.noConfusion (show false = true from h)
  | .sl _ _ _ _, _, _, _, _, _, _, _, _, x, h, _, _, hw => by obtain ⟨elt, gs, bs, pos, rfl⟩ := swB_lc hw; exact Bool.noConfusion (show false = true from h)
  | .rev _ _, _, _, _, _, _, _, _, _, x, h, _, _, hw => by obtain ⟨elt, gs, bs, pos, rfl⟩ := swB_lc hw; exact Bool.noConfusion (show false = true from h)
  | .call _ _, _, _, _, _, _, _, _, _, x, h, _, _, hw => by obtain ⟨elt, gs, bs, pos, rfl⟩ := swB_lc hw; exact Bool.noConfusion (show false = true from h)
  | .bi _ _ _, _, _, _, _, _, _, _, _, x, h, _, _, hw => by obtain ⟨elt, gs, bs, pos, rfl⟩ := swB_lc hw; exact Bool.noConfusion (show false = true from h)
  | .bi2 _ _ _, _, _, _, _, _, _, _, _, x, h, _, _, hw => by obtain ⟨elt, gs, bs, pos, rfl⟩ := swB_lc hw; exact Bool.noConfusion (show false = true from h)
  | .isi _ _, _, _, _, _, _, _, _, _, x, h, _, _, hw => by obtain ⟨elt, gs, bs, pos, rfl⟩ := swB_lc hw; exact Bool.noConfusion (show false = true from h)
  | .isx _ _, _, _, _, _, _, _, _, _, x, h, _, _, hw => by obtain ⟨elt, gs, bs, pos, rfl⟩ := swB_lc hw; exact Bool.noConfusion (show false = true from h)
  | .app _ _, _, _, _, _, _, _, _, _, x, h, _, _, hw => by obtain ⟨elt, gs, bs, pos, rfl⟩ := swB_lc hw; exact Bool.noConfusion (show false = true from h)
  | .ins _ _ _, _, _, _, _, _, _, _, _, x, h, _, _, hw => by obtain ⟨elt, gs, bs, pos, rfl⟩ := swB_lc hw; exact Bool.noConfusion (show false = true from h)
  | .lc2 fl el ow tg it tg2 it2 ow2 q, X, sc, fb, W, i, y, py, spos, e, h, hX, hy, hw => by
    obtain ⟨x, gs, bs, pos, rfl⟩ := swB_lc hw
    match gs, h with
    | [⟨t, i, [], 0⟩, ⟨t2, i2, ifs, 0⟩], h =>
        have h' : (blkC N sc bs (ownOf N ow) && (decide ((ownOf N ow).map (·.2) = ow) && (tgS tg).all (fun j => decide (j ∈ ow)) && ((tgS tg2).all (fun j => decide (j ∈ ow2)) && ow2.all (fun j => decide (j ∈ ow)))) &&
          (ckI T N it sc fb t i && plainE i) && (ckG N (relS bs sc) (fun x => bs.names.lookup x == some .cell) tg t && ((ckI T N it2 (relS bs sc) (fun x => bs.names.lookup x == some .cell) t2 i2 && plainE i2) && ckG N (relS bs sc) (fun x => bs.names.lookup x == some .cell) tg2 t2) && (ckC T N q (relS bs sc) (fun x => bs.names.lookup x == some .cell) ifs && ckE T N el (relS bs sc) (fun x => bs.names.lookup x == some .cell) x))) = true := h
        simp only [Bool.and_eq_true, decide_eq_true_eq, List.all_eq_true] at h'
        obtain ⟨⟨⟨h1, ⟨h2, h3⟩, h31, h32⟩, h4, h5⟩, ⟨h6, ⟨h61, h62⟩, h63⟩, h7, h8⟩ := h'
        have ok : BlkOk X.N X.env.scope bs (ownOf N ow) := by
          rw [hX.hN, hX.sc]
          exact blkOk_by h1
        rw [← hX.sc] at hw
        obtain ⟨w1, w2⟩ := swB_ok hw
        have q1 := ps_setLc2 (X := X) (spos := spos) (elt := x) (tg := t) (iter := i) (ifs := []) (tg1 := t2) (iter1 := i2) (ifs1 := ifs) (scope := bs) (own := ownOf N ow) (vs1 := ow2) (pos := pos) (g := tG X.K cA tg) (g1 := tG X.K cA tg2) (tt := tC1 X.K cA P (fun _ _ _ _ => False) .no) (tt1 := tC1 X.K cA P (fun _ _ _ _ => False) q) (wi1 := tI X.K cA P (fun _ _ _ _ => False) it2) (te := tE X.K cA P (fun _ _ _ _ => False) el) hX.calm hX.nd hy w1 w2 (sndI it h4 hX) ok (fun j hj => by rw [h2]; exact h32 j hj)
          (fun s H C cl fp => by
            have hB := hX.blk s H C cl fp (bs := bs)
            refine pg_ck (X := X.blk s H bs (compEnvC bs cl C X.env) fp) (N := N) ?_ hB.hN hB.nd hB.calm
            rw [hB.sc, hB.fb]
            exact h6)
          (fun s H C cl fp => sndC .no rfl (hX.blk s H C cl fp)) (fun s H C cl fp => sndI it2 h61 (hX.blk s H C cl fp))
          (fun s H C cl fp => by
            have hB := hX.blk s H C cl fp (bs := bs)
            refine pg_ck (X := X.blk s H bs (compEnvC bs cl C X.env) fp) (N := N) ?_ hB.hN hB.nd hB.calm
            rw [hB.sc, hB.fb]
            exact h63)
          (fun s H C cl fp => sndC q h7 (hX.blk s H C cl fp)) (fun s H C cl fp => (sndE el h8 (hX.blk s H C cl fp)).pe) (plain_set h5) (fun env => plain_set h62)
        rw [h2] at q1
        exact PS.imp q1 fun _ _ _ z => rd_lc2 h3 h31 z
  | .fld _ _, _, _, _, _, _, _, _, _, x, h, _, _, hw => by obtain ⟨elt, gs, bs, pos, rfl⟩ := swB_lc hw; exact Bool.noConfusion (show false = true from h)
  | .mk _ _ _, _, _, _, _, _, _, _, _, x, h, _, _, hw => by obtain ⟨elt, gs, bs, pos, rfl⟩ := swB_lc hw; exact Bool.noConfusion (show false = true from h)
  | .mc _ _ _ _ _, _, _, _, _, _, _, _, _, x, h, _, _, hw => by obtain ⟨elt, gs, bs, pos, rfl⟩ := swB_lc hw; exact Bool.noConfusion (show false = true from h)
theorem ckN_n {i : Nat} {sc : Scope} {fb : Str → Bool} {y : Str} {p : Pos} {X : Cx} (h : ckN N sc fb i (.Name y p) = true) (hX : XC T P cA lv X N sc fb W) : X.N[i]? = some y ∧ L2.Loc X.env.scope y ∧ (X.fn y = true ∨ X.env.scope.names.lookup y = some .local) := by
  rw [← hX.sc, ← hX.fb] at h
  obtain ⟨x, pos, e, h1, h2, h3⟩ := ckN_ok h hX.hN hX.nd
  cases e
  exact ⟨h1, h2, h3⟩
theorem ckG_g {tg : Tg} {sc : Scope} {fb : Str → Bool} {t : Expr} {X : Cx} (h : ckG N sc fb tg t = true) (hX : XC T P cA lv X N sc fb W) : PG X t (tG X.K cA tg) := by
  rw [← hX.sc, ← hX.fb] at h
  exact pg_ck h hX.hN hX.nd hX.calm
mutual
theorem sndS : ∀ (m : S) {X : Cx} {sc : Scope} {fb : Str → Bool} {W : WX} {st : Stmt}, ckS T N m sc fb st = true → XS T P cA lv X N sc fb W → PS X st (tS X.K cA P W m)
  | .nv, X, sc, fb, W, st, h, hX => ⟨fun pins s σ H B I z => by
    obtain ⟨c, e, s, r, re, h⟩ := z
    exact h.elim⟩
  | .asg (.nm i) a, X, sc, fb, W, st, h, hX => by
    cases st with
    | Assign ts x sp =>
      match ts, h with
      | [.Name y p], h =>
        have h' : (ckN N sc fb i (.Name y p) && ckE T N a sc fb x && (!lcB x || swB sc y p.line sp.line x)) = true := h
        simp only [Bool.and_eq_true, Bool.or_eq_true, Bool.not_eq_true'] at h'
        obtain ⟨⟨h1, h2⟩, h3⟩ := h'
        obtain ⟨g1, g2, g3⟩ := ckN_n h1 hX.toXC
        rcases h3 with h3 | h3
        · exact PS.imp (ps_set hX.nd g1 g2 (sndE a h2 hX.toXC).pe (lcB_sw h3) g3) fun _ _ _ z => rd_asgN z
        · exact PS.imp (asg_lc a h2 hX.toXC g1 h3) fun _ _ _ z => rd_asgN z
    | _ => exact Bool.noConfusion (show false = true from h)
  | .asg (.tp is) a, X, sc, fb, W, st, h, hX => by
    cases st with
    | Assign ts x sp =>
      match ts, h with
      | [.Tuple es k p], h =>
        have h' : (ckG N sc fb (.tp is) (.Tuple es k p) && ckE T N a sc fb x && (!lcB x && !tupB x)) = true := h
        simp only [Bool.and_eq_true, Bool.not_eq_true'] at h'
        obtain ⟨⟨h1, h2⟩, h3, h4⟩ := h'
        exact PS.imp (ps_asg (sndE a h2 hX.toXC).pe (ckG_g h1 hX.toXC) (show swapsWith x (some (.Tuple es k p)) sp.line X.env = pure false from lcB_sw h3) (tupB_st h4) rfl) fun _ _ _ z => rd_asg z
    | _ => exact Bool.noConfusion (show false = true from h)
  | .seti a i x, X, sc, fb, W, st, h, hX => by
    cases st with
    | Assign ts y sp =>
      match ts, h with
      | [.Subscript o j p], h =>
        have h' : ((ckE T N a sc fb o && (ckE T N i sc fb j && plainE j)) && ckE T N x sc fb y && !lcB y) = true := h
        simp only [Bool.and_eq_true, Bool.not_eq_true'] at h'
        obtain ⟨⟨⟨h1, h2, h3⟩, h4⟩, h5⟩ := h'
        exact PS.imp (ps_asg (sndE x h4 hX.toXC).pe (pg_sub (sndE a h1 hX.toXC).pe (sndE i h2 hX.toXC).pe ob_set (by intro v; cases j <;> first | rfl | exact Bool.noConfusion (show false = true from h3))) (show swapsWith y (some (.Subscript o j p)) sp.line X.env = pure false from lcB_sw h5)
          (by cases y <;> rfl) rfl) fun _ _ _ z => rd_seti z
    | _ => exact Bool.noConfusion (show false = true from h)
  | .setf _ _ _, X, sc, fb, W, st, h, hX => by cases st <;> exact Bool.noConfusion (show false = true from h)
  | .aug i op a, X, sc, fb, W, st, h, hX => by
    cases st with
    | AugAssign t o x sp =>
      cases t with
      | Name y p =>
        have h' : (ckN N sc fb i (.Name y p) && augB op o && ckE T N a sc fb x) = true := h
        simp only [Bool.and_eq_true] at h'
        obtain ⟨⟨h1, h2⟩, h3⟩ := h'
        obtain ⟨g1, g2, g3⟩ := ckN_n h1 hX.toXC
        have fin : ∀ {o : Operator}, PIp X o (ipI (augF op)) → PS X (.AugAssign (.Name y p) o x sp) (tS X.K cA P W (.aug i op a)) := fun k => PS.imp (ps_aug hX.nd g1 g2 (sndE a h3 hX.toXC).pe k g3) fun _ _ _ z => rd_aug z
        cases op <;> cases o <;> first | exact Bool.noConfusion (show false = true from h2) | exact fin ip_add | exact fin ip_sub
      | _ => exact Bool.noConfusion (show false = true from h)
    | _ => exact Bool.noConfusion (show false = true from h)
  | .ex a, X, sc, fb, W, st, h, hX => by
    cases st with
    | Expr x sp =>
      have h' : (ckE T N a sc fb x && !lcB x) = true := h
      simp only [Bool.and_eq_true, Bool.not_eq_true'] at h'
      exact PS.imp (ps_expr (sndE a h'.1 hX.toXC).pe (lcB_sw h'.2)) fun _ _ _ z => rd_ex z
    | _ => exact Bool.noConfusion (show false = true from h)
  | .ret a, X, sc, fb, W, st, h, hX => by
    cases st with
    | Return x sp =>
      cases x with
      | none => exact Bool.noConfusion (show false = true from h)
      | some x => exact PS.imp (ps_ret (sndE a h hX.toXC).pe) fun _ _ _ z => rd_ret z
    | _ => exact Bool.noConfusion (show false = true from h)
  | .retN, X, sc, fb, W, st, h, hX => by
    cases st with
    | Return x sp =>
      cases x with
      | none => exact PS.imp ps_retN fun _ _ _ z => rd_retN z
      | some x => exact Bool.noConfusion (show false = true from h)
    | _ => exact Bool.noConfusion (show false = true from h)
  | .ifs c a b, X, sc, fb, W, st, h, hX => by
    cases st with
    | If x xs ys sp =>
      have h' : ((ckE T N c sc fb x && tstB c) && (ckSs T N a sc fb xs && ckSs T N b sc fb ys)) = true := h
      simp only [Bool.and_eq_true] at h'
      obtain ⟨⟨h1, h2⟩, h3, h4⟩ := h'
      exact PS.imp (ps_if ((sndE c h1 hX.toXC).pt h2) (sndSs a h3 hX) (sndSs b h4 hX)) fun _ _ _ z => rd_ifs z
    | _ => exact Bool.noConfusion (show false = true from h)
  | .for_ tg it b, X, sc, fb, W, st, h, hX => by
    cases st with
    | For t i xs es sp =>
      cases es with
      | nil =>
        have h' : ((ckI T N it sc fb t i && plainE i) && (ckG N sc fb tg t && ckSs T N b sc fb xs)) = true := h
        simp only [Bool.and_eq_true] at h'
        obtain ⟨⟨h1, h2⟩, h3, h4⟩ := h'
        exact PS.imp (ps_for hX.hp hX.calm (sndI it h1 hX.toXC) (ckG_g h3 hX.toXC) (sndSs b h4 hX) (plain_set h2)) fun _ _ _ z => rd_for z
      | cons _ _ => exact Bool.noConfusion (show false = true from h)
    | _ => exact Bool.noConfusion (show false = true from h)
  | .whl c b, X, sc, fb, W, st, h, hX => by
    cases st with
    | While x xs es sp =>
      cases es with
      | nil =>
        have h' : ((ckE T N c sc fb x && tstB c) && ckSs T N b sc fb xs) = true := h
        simp only [Bool.and_eq_true] at h'
        obtain ⟨⟨h1, h2⟩, h3⟩ := h'
        exact PS.imp (ps_while hX.hp ((sndE c h1 hX.toXC).pt h2) (sndSs b h3 hX)) fun _ _ _ z => rd_whl z
      | cons _ _ => exact Bool.noConfusion (show false = true from h)
    | _ => exact Bool.noConfusion (show false = true from h)
  | .pass, X, sc, fb, W, st, h, hX => by
    cases st with
    | Pass p => exact PS.imp ps_pass fun B σ H ⟨c, e, s, r, re, h⟩ => h.nx r re
    | _ => exact Bool.noConfusion (show false = true from h)
  | .brk, X, sc, fb, W, st, h, hX => by
    cases st with
    | Break p => exact PS.imp ps_break fun B σ H ⟨c, e, s, r, re, h⟩ => h c H σ (Ext.refl _ _) r re
    | _ => exact Bool.noConfusion (show false = true from h)
  | .cnt, X, sc, fb, W, st, h, hX => by
    cases st with
    | Continue p => exact PS.imp ps_continue fun B σ H ⟨c, e, s, r, re, h⟩ => h c H σ (Ext.refl _ _) r re
    | _ => exact Bool.noConfusion (show false = true from h)
  | .raiseM k, X, sc, fb, W, st, h, hX => by
    have h' : (match raB st with
      | some (x, ys) => decide (T.exs[k]? = some (x, false)) && ((glB sc x && dbgB x) && msB ys)
      | none => false) = true := h
    cases q : raB st with
    | none => rw [q] at h'; cases h'
    | some xy =>
      obtain ⟨x, ys⟩ := xy
      rw [q] at h'
      simp only [Bool.and_eq_true, decide_eq_true_eq] at h'
      obtain ⟨h1, ⟨h2, h3⟩, h4⟩ := h'
      obtain ⟨p, p2, pos, rfl⟩ := raB_ok q
      obtain ⟨m, j, p3, rfl⟩ := msB_ok h4
      obtain ⟨g1, g2, g3⟩ := dbgB_ok h3
      obtain ⟨k1, k2, k3⟩ := hX.g.ex.r0 k x h1
      obtain ⟨l1, l2⟩ := hX.g.ex.gl k x false h1
      exact PS.imp (ps_raise hX.calm hX.tk (pmk_own F.excBase_ValueError k1 l1 l2 (raises_own k2 k3) (glB_gl h2 hX.toXC) g1)) fun _ _ _ z => rd_raiseM z
  | .raiseV k f a, X, sc, fb, W, st, h, hX => by
    have h' : (match raB st with
      | some (x, [y]) => decide (T.exs[k]? = some (x, true)) && ((glB sc x && dbgB x) && (ckE T N a sc fb y && plainE y))
      | _ => false) = true := h
    cases q : raB st with
    | none => rw [q] at h'; cases h'
    | some xy =>
      obtain ⟨x, ys⟩ := xy
      rw [q] at h'
      match ys, h', q with
      | [], h', q => cases h'
      | _ :: _ :: _, h', q => cases h'
      | [y], h', q =>
      simp only [Bool.and_eq_true, decide_eq_true_eq] at h'
      obtain ⟨h1, ⟨h2, h3⟩, h4, h5⟩ := h'
      obtain ⟨p, p2, pos, rfl⟩ := raB_ok q
      obtain ⟨g1, g2, g3⟩ := dbgB_ok h3
      obtain ⟨l1, l2⟩ := hX.g.ex.gl k x true h1
      obtain ⟨O, hno, fI, fd, i1, i2, i3, i4⟩ := hX.g.ini k x h1
      exact PS.imp (ps_raise hX.calm hX.tk (pmk_oex O i1 i2 i3 (hX.toXC.room.mono (show 1 + 1 ≤ lv + 3 by omega)) i4 .nil (passes_call (W := W) hX.tk fun _ _ _ _ z => z.elim) (glB_gl h2 hX.toXC) l1 (pa_cons (sndE a h4 hX.toXC).pe pa_nil (star_cons h5)) g1 (star_cons h5) rfl)) fun _ _ _ z => rd_raiseV O hno z
  | .tryC b k x i, X, sc, fb, W, st, h, hX => by
    have h' : (match trB st with
      | some (body, c, n, m, n') => (match T.exs[k]? with
        | some (c', _) => decide (c' = c) && (glB sc c && dbgB c)
        | none => false) && ((decide (n' = n) && (decide (N[x]? = some n) && (decide (sc.names.lookup n = some .local) && dbgB n))) && ((decide (N[i]? = some m) && decide (sc.names.lookup m = some .local)) && ckSs T N b sc fb body))
      | none => false) = true := h
    cases q : trB st with
    | none => rw [q] at h'; cases h'
    | some xy =>
      obtain ⟨body, c, n, m, n'⟩ := xy
      rw [q] at h'
      obtain ⟨p1, p2, p3, p4, p5, p6, rfl⟩ := trB_ok q
      simp only [Bool.and_eq_true, decide_eq_true_eq] at h'
      obtain ⟨h1, ⟨rfl, h2, h3, h4⟩, ⟨h5, h6⟩, h7⟩ := h'
      cases ek : T.exs[k]? with
      | none => rw [ek] at h1; cases h1
      | some cb =>
        obtain ⟨c', b'⟩ := cb
        rw [ek] at h1
        simp only [Bool.and_eq_true, decide_eq_true_eq] at h1
        obtain ⟨rfl, k1, k2⟩ := h1
        obtain ⟨l1, l2, l3⟩ := dbgB_ok k2
        obtain ⟨n1, n2, n3⟩ := dbgB_ok h4
        have hk : X.env.scope.names.lookup n' = some .local := by rw [hX.sc]; exact h3
        have hm : X.env.scope.names.lookup m = some .local := by rw [hX.sc]; exact h6
        refine PS.imp (ps_keep (X := X) (i := x) (tb := fun W => tSs X.K cA P W b) (ts := tAsg (tVar x) (gName i)) hX.hs hX.hf hX.hx hX.nd (by rw [hX.hN]; exact h2) hk ⟨glB_gl k1 hX.toXC, l1, .inl (hX.g.ex.gl k c' b' ek).1⟩ hX.tk
          (fun W' pn xe tk' hp' => sndSs b h7 { hN := hX.hN, nd := hX.nd, sc := hX.sc, fb := hX.fb, calm := hX.calm, room := hX.room, gd := hX.gd, tk := tk', g := hX.g, hp := hp', hs := hX.hs, hf := hX.hf, hx := hX.hx })
          (fun a pn => pss_one (ps_set (X := X.suite a pn) hX.nd (by show X.N[i]? = some m; rw [hX.hN]; exact h5) (.inl hm) (pe_var (X := X.suite a pn) (by show X.N[x]? = some n'; rw [hX.hN]; exact h2) (.inl hk) n1 n2) rfl (.inr hm)))) fun _ _ _ z => rd_tryC hX.g.ex z
theorem sndSs : ∀ (m : Ss) {X : Cx} {sc : Scope} {fb : Str → Bool} {W : WX} {st : List Stmt}, ckSs T N m sc fb st = true → XS T P cA lv X N sc fb W → PSs X st (tSs X.K cA P W m)
  | .nil, X, sc, fb, W, st, h, hX => by
    cases st with
    | nil => exact PSs.imp pss_nil fun B σ H ⟨c, e, s, r, re, h⟩ => h.nx r re
    | cons _ _ => exact Bool.noConfusion (show false = true from h)
  | .cons a r, X, sc, fb, W, st, h, hX => by
    cases st with
    | nil => exact Bool.noConfusion (show false = true from h)
    | cons x xs =>
      have h' : (ckS T N a sc fb x && ckSs T N r sc fb xs) = true := h
      simp only [Bool.and_eq_true] at h'
      refine PSs.imp (pss_cons (sndS a h'.1 hX) (sndSs r h'.2 hX)) ?_
      rintro B σ H ⟨c, e, s, r, re, h⟩
      simp only [exs] at h
      have h2 := h.nxt
      refine ⟨c, e, s, r, re, ?_⟩
      cases q : exe P a e s with
      | nx e1 s1 =>
        rw [q] at h2
        exact fun c1 H1 σ1 x1 r1 re1 => let ⟨c2, e2, s2, x2, r2, re2, z⟩ := h2 c1 H1 σ1 x1 r1 re1; ⟨c2, e2, s2, r2, re2, z⟩
      | bk e1 s1 => rw [q] at h2; exact h2
      | ct e1 s1 => rw [q] at h2; exact h2
      | rt d s1 => rw [q] at h2; exact h2
      | exc y e1 s1 => rw [q] at h2; exact h2
      | bad => rw [q] at h2; exact h2
end
end
end
end G

namespace G
open PySem PySem.Spec PyProof.Rows L2
open Classical
noncomputable section
/-! ### defs -/
/-- a def: its parameters, its slots, its text; does it hand out plain data and leave nothing behind? -/
structure FnI where
  n : Nat
  N : Nat
  body : Ss
  pure : Bool
def finO (F : FnI) (d : D) (s s' : Sto) : R D := if F.pure = true then rOr (frz 8 d s') fun q => rOr (cut s q.2) fun s3 => .ok (.p q.1) s3 else .ok d s'
def plP : Option D → Bool
  | none => true
  | some (.p _) => true
  | _ => false
def finX (x : Xn) (s s' : Sto) : R D := if plP x.pl = true then rOr (cut s s') fun s3 => .exc x s3 else .bad
def runB (P : Pg) (F : FnI) (args : List D) (s : Sto) : R D := match exs P F.body (args.map some ++ List.replicate (F.N - args.length) none) s with
  | .nx _ s' => finO F (.p .none) s s'
  | .rt d s' => finO F d s s'
  | .exc x _ s' => finX x s s'
  | _ => .bad
def run (sb : Nat → Nat → Option Bool) (tb : List FnI) (gl : Nat → PyData) (W : Nat) : Nat → Nat → List D → Sto → R D
  | 0, _, _, _ => .bad
  | n + 1, f, args, s => match tb[f]? with
    | some F => if args.length = F.n then runB ⟨sb, run sb tb gl W n, gl, W⟩ F args s else .bad
    | none => .bad
def pgOf (sb : Nat → Nat → Option Bool) (tb : List FnI) (gl : Nat → PyData) (W n : Nat) : Pg := ⟨sb, run sb tb gl W n, gl, W⟩
section
variable {K : PySem.W.Frag} {cA : Nat → Addr}
theorem finO_ok {F : FnI} {d : D} {c c' : Cf} {H H' : Hp} {s s' : Sto} {v : V} {A : D → Sto → Cf → Hp → Prop} {W : Xn → Sto → Cf → Hp → Prop} (r : Rep K cA c H s) (x : Ext c H c' H') (r' : Rep K cA c' H' s') (hv : RepV K c' d v) (h : Post K cA c H (finO F d s s') A W) :
    ∃ d2 s2 c2, Rep K cA c2 H' s2 ∧ RepV K c2 d2 v ∧ A d2 s2 c2 H' := by
  unfold finO at h
  by_cases q : F.pure = true
  · rw [if_pos q] at h
    obtain ⟨⟨q1, s1⟩, e1, h⟩ := h.rOr
    obtain ⟨s3, e2, h⟩ := h.rOr
    obtain ⟨c2, f1, f2⟩ := frz_ok 8 e1 r' hv
    obtain ⟨g1, g2⟩ := r.cut (x.trans f1.e) f1.r e2
    exact ⟨.p q1, s3, ⟨c2.F, c.ι⟩, g1, f2, h _ _ g2 g1⟩
  · rw [if_neg q] at h
    exact ⟨d, s', c', r', hv, h _ _ x r'⟩
theorem runB_ok {P : Pg} {F : FnI} {args : List D} {c : Cf} {H : Hp} {s : Sto} {Q : VK} {E : XK} {σ : L2.St} (r : Rep K cA c H s) (re : RelE K c (args.map some ++ List.replicate (F.N - args.length) none) σ)
    (h : Post K cA c H (runB P F args s) (okQ K Q) (fun x _ c' H' => ∀ cls dd, XnR K cA c' x cls dd → E cls dd H')) : tSs K cA P (fun cls d _ H => E cls d H) F.body { nx := fun _ H' => Q .non H', rt := Q } σ H := by
  refine ⟨c, _, s, r, re, ?_⟩
  unfold runB at h
  cases q : exs P F.body (args.map some ++ List.replicate (F.N - args.length) none) s with
  | nx e s' =>
    rw [q] at h
    intro c' H' σ' x r' re'
    obtain ⟨d2, s2, c2, k1, k2, k3⟩ := finO_ok (d := .p .none) (v := .non) r x r' Dq.non h
    exact k3 .non k2
  | rt d s' =>
    rw [q] at h
    intro c' H' v x r' hv
    obtain ⟨d2, s2, c2, k1, k2, k3⟩ := finO_ok r x r' hv h
    exact k3 v k2
  | exc y e s' =>
    rw [q] at h
    intro c' H' σ' x r' re' cls dd hx
    have h : Post K cA c H (finX y s s') (okQ K Q) (fun x _ c' H' => ∀ cls dd, XnR K cA c' x cls dd → E cls dd H') := h
    unfold finX at h
    obtain ⟨q1, h⟩ := h.if_
    obtain ⟨s3, e2, h⟩ := h.rOr
    obtain ⟨g1, g2⟩ := r.cut x r' e2
    refine h _ _ g2 g1 cls dd ⟨hx.1, ?_⟩
    have hx2 := hx.2
    cases ep : y.pl with
    | none =>
      rw [ep] at hx2
      exact hx2
    | some d =>
      rw [ep] at hx2 q1
      cases d with
      | p d => exact hx2
      | o n => cases q1
      | s l => cases q1
  | bk e s' => rw [q] at h; exact h.elim
  | ct e s' => rw [q] at h; exact h.elim
  | bad => rw [q] at h; exact h.elim
theorem relE_start {c : Cf} {N : List Str} {n : Nat} {args : List D} {vs : List V} (hv : RepVs K c args vs) (hn : n = N.length) : RelE K c (args.map some ++ List.replicate (n - args.length) none) (L2.start N vs) := by
  have hl := Paired.length hv
  unfold L2.start
  refine ⟨by simp [hl, hn], fun i d q => ?_⟩
  by_cases hi : i < args.length
  · rw [List.getElem?_append_left (by simpa using hi), List.getElem?_map] at q
    cases z : args[i]? with
    | none => rw [z] at q; cases q
    | some d' =>
      rw [z] at q
      cases q
      obtain ⟨w, h1, h2⟩ := repVs_get hv z
      refine ⟨w, ?_, h2⟩
      rw [List.getElem?_append_left (by rw [List.length_map, ← hl]; exact hi), List.getElem?_map, h1]
      rfl
  · rw [List.getElem?_append_right (by simpa using Nat.le_of_not_lt hi)] at q
    rw [List.getElem?_replicate] at q
    split at q <;> cases q
end
/-- what stands fast of a def -/
structure FnF (T : Tb) (K : PySem.W.Frag) (mg : Str → Option Value) (x : Str) (F : FnI) (a : Addr) (fd : FuncData) (ps : List Str) : Prop where
  ex : ∃ (qual : Str) (params : Arguments) (body : List Stmt) (scope : Scope) (dvs : List V) (kws : List (Str × V)) (N : List Str) (nm : Str), FunD K nm qual params body scope dvs kws a fd ∧ FnScope N ps scope ∧ ps.length = F.n ∧ F.N = N.length ∧ ckSs T N F.body scope (fun _ => true) body = true
  mg : mg x = some (.ref a)
  bd : L2.Binds K fd ps []
  bA : ∀ (s : Shared) (us : List Value), us.length = ps.length → BindsTo s fd ⟨us, []⟩ (ps.zip us)
/-- the table of the defs stands fast -/
structure TbF (T : Tb) (sb : Nat → Nat → Option Bool) (cA : Nat → Addr) (tb : List FnI) (gl : Nat → PyData) (K : PySem.W.Frag) (mg : Str → Option Value) : Prop where
  fn : ∀ (f : Nat) (x : Str) (n : Nat), T.fns[f]? = some (x, n) → ∃ F a fd ps, tb[f]? = some F ∧ F.n = n ∧ FnF T K mg x F a fd ps
  gl : ∀ (i : Nat) (x : Str), T.gls[i]? = some x → ∃ u v, mg x = some u ∧ RelV v u ∧ ∀ F : Hp, Dq K F v (gl i)
  fr : ∀ x ∈ T.fr, mg x = none
  ex : ExF K mg cA T.exs sb
  ini : ∀ (k : Nat) (x : Str), T.exs[k]? = some (x, true) → OexC K (cA k) ∧ PySem.W.findIn K (.ref (cA k)) "wrong" = some none ∧ ∃ fI fd, PySem.W.findIn K (.ref (cA k)) "__init__" = some (some (.ref fI)) ∧ PySem.W.typeIn K (.ref fI) = some (.type "function") ∧ L2.Binds K fd ["self", "wrong"] [] ∧
    ∃ (nm qual B : Str) (params : Arguments) (body : List Stmt) (scope : Scope) (b : Addr), FunD K nm qual params body scope [] [] fI fd ∧ FnScope ["self", "wrong"] ["self", "wrong"] scope ∧ iniB scope B body = true ∧ mg B = some (.ref b) ∧ IniK K b
theorem fnG_step {T : Tb} {sb : Nat → Nat → Option Bool} {tb : List FnI} {gl : Nat → PyData} {W m f n : Nat} {x : Str} {F : FnI} {a : Addr} {fd : FuncData} {ps : List Str} {cA : Nat → Addr} {prog : Program} {w : World} {K : PySem.W.Frag} {mg : Str → Option Value} {base : Heap}
    (ih : Gb T (pgOf sb tb gl W m) cA (4 * m) prog w K mg base) (e1 : tb[f]? = some F) (e2 : F.n = n) (hF : FnF T K mg x F a fd ps) : FnG prog w K mg base (4 * (m + 1)) a fd ps (spF K cA (pgOf sb tb gl W (m + 1)) f n) := by
  obtain ⟨qual, params, body, scope, dvs, kws, N, nm, k1, k2, k3, k4, k5⟩ := hF.ex
  obtain ⟨oc, od, dV, kV, doc, pm, an, cdv, ct, osl, rfl, lk, hcd, _, _⟩ := k1.ex
  have hlen : ∀ vs H Q E, spF K cA (pgOf sb tb gl W (m + 1)) f n vs H Q E → vs.length = ps.length := fun vs H Q E ⟨c, ds, s, r, hv, hl, z⟩ => by
    rw [← Paired.length hv]
    omega
  have e3 : 4 * (m + 1) = (4 * m + 3) + 1 := by omega
  rw [e3]
  refine fn_ofG lk hcd k2 hlen fun A outer s H vs Q E hr hg hsp => ?_
  obtain ⟨c, ds, st, r, hv, hl, z⟩ := hsp
  have z2 : Post K cA c H (runB (pgOf sb tb gl W m) F ds st) (okQ K Q) (fun x _ c' H' => ∀ cls dd, XnR K cA c' x cls dd → E cls dd H') := by
    have z1 : Post K cA c H (run sb tb gl W (m + 1) f ds st) (okQ K Q) (fun x _ c' H' => ∀ cls dd, XnR K cA c' x cls dd → E cls dd H') := z
    simp only [run, e1] at z1
    rw [if_pos (by omega)] at z1
    exact z1
  refine ⟨_, sndSs (lv := 4 * m) (W := fun cls d _ H => E cls d H) F.body (X := cxOf (L2.CX prog w) prog w K mg base N qual scope a cdv A outer s H E) k5 ?_, runB_ok (E := E) r (relE_start (N := N) hv k4) z2⟩
  exact { hN := rfl, nd := k2.nd, sc := rfl, fb := rfl, calm := rfl, room := hr, gd := hg, tk := takes_of rfl rfl rfl rfl, g := ih, hp := passes_of rfl, hs := rfl, hf := rfl, hx := rfl }
theorem gb_of {T : Tb} {sb : Nat → Nat → Option Bool} {tb : List FnI} {gl : Nat → PyData} {W : Nat} {cA : Nat → Addr} {prog : Program} {w : World} {K : PySem.W.Frag} {mg : Str → Option Value} {base : Heap} (h : TbF T sb cA tb gl K mg) : ∀ n, Gb T (pgOf sb tb gl W n) cA (4 * n) prog w K mg base
  | 0 => by
    refine ⟨fun f x n e => ?_, h.gl, h.fr, h.ex, fun k x e => let ⟨o, hw, fI, fd, i1, i2, i3, nm, qual, B, params, body, scope, b, j1, j2, j3, j4, j5⟩ := h.ini k x e; ⟨o, hw, fI, fd, i1, i2, ini_ok j1 j2 j3 j4 j5, i3⟩⟩
    obtain ⟨F, a, fd, ps, e1, e2, hF⟩ := h.fn f x n e
    obtain ⟨qual, params, body, scope, dvs, kws, N, nm, k1, k2, k3, k4, k5⟩ := hF.ex
    refine ⟨a, fd, ps, ⟨fun vs H Q E ⟨c, ds, s, r, hv, hl, z⟩ => ?_, fun A outer s H args us vs Q E hr hg e0 hb hv z => ?_⟩, hF.mg, k1.kp, hF.bd⟩
    · rw [← Paired.length hv]
      omega
    · obtain ⟨c, ds, s, r, hv, hl, z⟩ := z
      exact z.elim
  | m + 1 => by
    have ih := gb_of (W := W) (cA := cA) (prog := prog) (w := w) (base := base) h m
    refine ⟨fun f x n e => ?_, h.gl, h.fr, h.ex, fun k x e => let ⟨o, hw, fI, fd, i1, i2, i3, nm, qual, B, params, body, scope, b, j1, j2, j3, j4, j5⟩ := h.ini k x e; ⟨o, hw, fI, fd, i1, i2, ini_ok j1 j2 j3 j4 j5, i3⟩⟩
    obtain ⟨F, a, fd, ps, e1, e2, hF⟩ := h.fn f x n e
    obtain ⟨qual, params, body, scope, dvs, kws, N, nm, k1, k2, k3, k4, k5⟩ := hF.ex
    exact ⟨a, fd, ps, fnG_step ih e1 e2 hF, hF.mg, k1.kp, hF.bd⟩
end
end G

namespace G
open PySem PySem.Spec PyProof.Rows L2
open Classical
noncomputable section
/-! ### a head by facts of one's own -/
def obsK (ok : PySem.W.Frag → Bool) (fn : List He.DefD) (K : PySem.W.Frag) : He.AlD := (ok K && fn.all fun d => d.ok K, fn.map fun d => He.fnW K d.at_)
def SaysK (ok : PySem.W.Frag → Bool) (fn : List He.DefD) (K : PySem.W.Frag) : Prop := obsK ok fn K = He.valD fn
def asK (g : Addr → Option Obj) : Nat → List Addr
  | 0 => [mainGlobals, PySem.cStatics]
  | n + 1 => He.growD g (asK g n)
def obsT (n : Nat) (ok : PySem.W.Frag → Bool) (fn : List He.DefD) (g : Addr → Option Obj) : He.AlD := obsK ok fn (He.frG g (asK g n))
def hookK (n : Nat) (ok : PySem.W.Frag → Bool) (fn : List He.DefD) : PySem.W.Hook where
  α := He.AlD
  obs s := obsT n ok fn s.heap.get?
  val _ := He.valD fn
  says _ h := ∃ K : PySem.W.Frag, K.In h ∧ SaysK ok fn K
  of _ _ e := ⟨_, He.frG_in, e⟩
  keeps _ _ _ z k := let ⟨K, hK, c⟩ := z; ⟨K, PySem.W.Frag.In.keeps hK k, c⟩
theorem obsT_eq {n : Nat} {ok : PySem.W.Frag → Bool} {fn : List He.DefD} {g : Addr → Option Obj} {s : Shared} (h : ∀ a, g a = s.heap.get? a) : obsT n ok fn g = (hookK n ok fn).obs s := by
  rw [show g = s.heap.get? from funext h]
  rfl
section
variable {ok : PySem.W.Frag → Bool} {fn : List He.DefD} {K : PySem.W.Frag}
theorem SaysK.parts (c : SaysK ok fn K) : ok K = true ∧ (fn.all fun d => d.ok K) = true ∧ (fn.map fun d => He.fnW K d.at_) = fn.map He.DefD.val := by
  have c1 : (ok K && fn.all fun d => d.ok K) = true := congrArg (fun z : He.AlD => z.1) c
  obtain ⟨c2, c3⟩ := Bool.and_eq_true_iff.mp c1
  exact ⟨c2, c3, congrArg (fun z : He.AlD => z.2) c⟩
theorem SaysK.dd (c : SaysK ok fn K) {i : Nat} {d : He.DefD} (h : fn[i]? = some d) : ∃ fd, FunD K d.name d.qual d.params d.body d.scope (d.dvs K) (d.kws K) (He.fAd K d.at_) fd := by
  obtain ⟨_, c2, e⟩ := c.parts
  have q := congrArg (fun l => l[i]?) e
  simp only [List.getElem?_map, h] at q
  exact He.DefD.funD (Option.some.inj q) (List.all_eq_true.mp c2 d (List.mem_of_getElem? h))
end
/-! ### the static side -/
structure FnT where
  d : He.DefD
  N : List Str
  ps : List Str
  F : FnI
def BindT (t : FnT) : Prop := ∀ (kV doc pm : Value) (an : Option Addr) (cdv ct : Value) (us : List Value), us.length = t.ps.length → bindArgs (PySem.W.fnOf t.d.name t.d.qual t.d.params t.d.body t.d.scope .none kV doc pm an cdv ct) ⟨us, []⟩ = pure (t.ps.zip us)
def AllT {α : Type} (p : α → Prop) : List α → Prop
  | [] => True
  | x :: xs => p x ∧ AllT p xs
theorem AllT.get {α : Type} {p : α → Prop} : ∀ {l : List α}, AllT p l → ∀ {i : Nat} {x : α}, l[i]? = some x → p x
  | [], _, i, x, h => by cases h
  | y :: l, a, 0, x, h => by cases h; exact a.1
  | y :: l, a, i + 1, x, h => AllT.get a.2 (by simpa using h)
def fsB (N P : List Str) (sc : Scope) : Bool := (sc.kind == .function) && (!sc.isCoroutine && (!sc.isGenerator && (decide N.Nodup && (decide (N.take P.length = P) && (P.all (fun x => decide (sc.names.lookup x = some .local ∨ sc.names.lookup x = some .cell)) && sc.names.all fun y => decide (y.2 ≠ .free))))))
theorem fsB_ok {N P : List Str} {sc : Scope} (h : fsB N P sc = true) : FnScope N P sc := by
  unfold fsB at h
  simp only [Bool.and_eq_true, decide_eq_true_eq, Bool.not_eq_true', List.all_eq_true] at h
  obtain ⟨h1, h2, h3, h4, h5, h6, h7⟩ := h
  refine ⟨?_, h2, h3, h4, h5, fun x hx => h6 x hx, fun y hy => h7 y hy⟩
  cases q : sc.kind <;> first | rfl | (rw [q] at h1; cases h1)
def stF (T : Tb) (t : FnT) : Bool := fsB t.N t.ps t.d.scope && (decide (t.ps.length = t.F.n) && (decide (t.F.N = t.N.length) && (t.d.dfl.isEmpty && (t.d.kwd.isEmpty && ckSs T t.N t.F.body t.d.scope (fun _ => true) t.d.body))))
/-- plain constants of the modules -/
def dvP : PyData → Option He.Dv
  | .none => some .non
  | .bool b => some (.bl b)
  | .int i => some (.int i)
  | .str z => some (.str z)
  | _ => none
def gOk (K : PySem.W.Frag) (x : Str) : PyData → Bool
  | .int i => (He.Fa.int x i).ok K
  | .str z => (He.Fa.str x z).ok K
  | .tuple ds => (He.Fa.glo x).ok K && ((ds.all fun d => (dvP d).isSome) && He.tupB K x (ds.filterMap dvP))
  | _ => false
theorem dvP_ok {K : PySem.W.Frag} {F : Hp} : ∀ {ds : List PyData}, (ds.all fun d => (dvP d).isSome) = true → DqAll K F ((ds.filterMap dvP).map (He.Dv.v K)) ds
  | [], _ => .nil
  | d :: ds, h => by
    rw [List.all_cons, Bool.and_eq_true] at h
    obtain ⟨h1, h2⟩ := h
    cases d with
    | none => exact .cons .non (dvP_ok h2)
    | bool b => exact .cons (.bl b) (dvP_ok h2)
    | int i => exact .cons (.int i) (dvP_ok h2)
    | str z => exact .cons (.str z) (dvP_ok h2)
    | list l => cases h1
    | tuple l => cases h1
    | dict l => cases h1
theorem gOk_ok {K : PySem.W.Frag} {h : Heap} {mg : Str → Option Value} {x : Str} {d : PyData} (X : K.In h) (M : h.Ns mainGlobals mg) (c : gOk K x d = true) : ∃ u v, mg x = some u ∧ RelV v u ∧ ∀ F : Hp, Dq K F v d := by
  cases d with
  | int i =>
    obtain ⟨t, e⟩ := He.int_ok X M c
    exact ⟨_, .int i, e, ⟨t, rfl⟩, fun F => .int i⟩
  | str z =>
    obtain ⟨t, e⟩ := He.str_ok X M c
    exact ⟨_, .str z, e, ⟨t, rfl⟩, fun F => .str z⟩
  | tuple ds =>
    have c' : ((He.Fa.glo x).ok K && ((ds.all fun d => (dvP d).isSome) && He.tupB K x (ds.filterMap dvP))) = true := c
    simp only [Bool.and_eq_true] at c'
    obtain ⟨c1, c2, c3⟩ := c'
    exact ⟨_, .ref (He.ga K x), He.glo_ok X M c1, rfl, fun F => .tup (He.tupB_ok c3 F) (dvP_ok c2)⟩
  | none => cases c
  | bool b => cases c
  | list l => cases c
  | dict l => cases c
/-- an own exception class: its own __init__, the class whose __init__ that calls -/
structure ExT where
  nm : Str
  ini : Option (He.DefD × Str)
structure LawT where
  fts : List FnT
  nms : List Str
  gls : List (Str × PyData)
  fr : List Str
  exs : List ExT
  sbt : List (List Bool)
def LawT.T (L : LawT) : Tb := ⟨L.nms.zip (L.fts.map fun t => t.F.n), [], L.gls.map (·.1), L.fr, L.exs.map fun e => (e.nm, e.ini.isSome)⟩
def LawT.tb (L : LawT) : List FnI := L.fts.map (·.F)
def LawT.gl (L : LawT) (i : Nat) : PyData := match L.gls[i]? with
  | some p => p.2
  | none => .none
def LawT.sb (L : LawT) (k j : Nat) : Option Bool := match L.sbt[k]? with
  | some l => l[j]?
  | none => none
def iniD (l : List ExT) : List He.DefD := l.filterMap fun e => e.ini.map (·.1)
def LawT.fn (L : LawT) : List He.DefD := L.fts.map (·.d) ++ iniD L.exs
def LawT.cA (L : LawT) (K : PySem.W.Frag) (k : Nat) : Addr := match L.exs[k]? with
  | some e => He.ga K e.nm
  | none => 0
def inkB (K : PySem.W.Frag) (B : Addr) : Bool := decide (PySem.W.specialIn K (.ref B) "__getattribute__" = some (some (.builtin "type.__getattribute__"))) && (PySem.W.readsIn K B (.type "type") && (match PySem.W.findCls K (.ref B) (.type "type") "__init__" with
  | some (.val (.builtin n)) => n == "ValueError.__init__"
  | _ => false))
theorem inkB_ok {K : PySem.W.Frag} {B : Addr} (h : inkB K B = true) : IniK K B := by
  unfold inkB at h
  simp only [Bool.and_eq_true, decide_eq_true_eq] at h
  obtain ⟨h1, h2, h3⟩ := h
  refine ⟨h1, h2, ?_⟩
  split at h3
  · rename_i n q
    rw [q, eq_of_beq h3]
  · cases h3
def exOk (K : PySem.W.Frag) (e : ExT) : Bool := (He.Fa.glo e.nm).ok K && (exaB K (He.ga K e.nm) && (decide (PySem.W.kitOne K (.type "NoneType") (.ref (He.ga K e.nm)) = some false) && (decide (PySem.W.kitOne K (.ref (He.ga K e.nm)) (.type "ValueError") = some true) && (match e.ini with
  | none => (He.Fa.exc e.nm).ok K
  | some q => oexB K (He.ga K e.nm) && (decide (PySem.W.findIn K (.ref (He.ga K e.nm)) "__init__" = some (some (.ref (He.ma K (He.ga K e.nm) "__init__")))) && (decide (PySem.W.typeIn K (.ref (He.ma K (He.ga K e.nm) "__init__")) = some (.type "function")) && ((He.Fa.glo q.2).ok K && inkB K (He.ga K q.2))))))))
def sbOk (K : PySem.W.Frag) (L : LawT) : Bool := (List.range L.exs.length).all fun k => (List.range L.exs.length).all fun j => match L.sb k j with
  | some b => decide (PySem.W.exmOne K (.ref (L.cA K k)) (.ref (L.cA K j)) = some b) && decide (PySem.W.kitOne K (.ref (L.cA K k)) (.ref (L.cA K j)) = some b)
  | none => true
def LawT.ok (L : LawT) (K : PySem.W.Frag) : Bool := (L.nms.all fun x => (He.Fa.glo x).ok K) && ((L.fr.all fun x => (He.Fa.free x).ok K) && ((L.gls.all fun p => gOk K p.1 p.2) && ((L.exs.all fun e => exOk K e) && sbOk K L)))
def exSt (e : ExT) : Bool := match e.ini with
  | none => true
  | some (d, B) => decide (d.at_ = (e.nm, some ("__init__" : Str))) && (fsB ["self", "wrong"] ["self", "wrong"] d.scope && (iniB d.scope B d.body && (d.dfl.isEmpty && d.kwd.isEmpty)))
def LawT.st (L : LawT) : Bool := decide (L.fts.map (fun t => t.d.at_) = L.nms.map fun x => (x, none)) && (L.fts.all (stF L.T) && (L.exs.all exSt && (decide (L.sbt.length ≤ L.exs.length) && L.sbt.all fun l => decide (l.length ≤ L.exs.length))))
def BindE (e : ExT) : Prop := match e.ini with
  | none => True
  | some (d, _) => ∀ (kV doc pm : Value) (an : Option Addr) (cdv ct : Value) (us : List Value), us.length = ([("self" : Str), "wrong"]).length → bindArgs (PySem.W.fnOf d.name d.qual d.params d.body d.scope .none kV doc pm an cdv ct) ⟨us, []⟩ = pure (([("self" : Str), "wrong"]).zip us)
theorem tbF_of {L : LawT} {K : PySem.W.Frag} {h : Heap} {mg : Str → Option Value} (X : K.In h) (M : h.Ns mainGlobals mg) (c : SaysK L.ok L.fn K) (st : L.st = true) (bd : AllT BindT L.fts) (be : AllT BindE L.exs) : TbF L.T L.sb (L.cA K) L.tb L.gl K mg := by
  have okk := c.parts.1
  unfold LawT.ok at okk
  simp only [Bool.and_eq_true, List.all_eq_true] at okk
  obtain ⟨o1, o2, o3, o4, o5⟩ := okk
  unfold LawT.st at st
  simp only [Bool.and_eq_true, decide_eq_true_eq, List.all_eq_true] at st
  obtain ⟨s1, s2, s3, s4, s5⟩ := st
  have exK : ∀ {k : Nat} {e : ExT}, L.exs[k]? = some e → L.cA K k = He.ga K e.nm ∧ exOk K e = true ∧ exSt e = true ∧ BindE e := fun {k e} q => ⟨by unfold LawT.cA; rw [q], o4 e (List.mem_of_getElem? q), s3 e (List.mem_of_getElem? q), be.get q⟩
  have exG : ∀ {k : Nat} {x : Str} {b : Bool}, L.T.exs[k]? = some (x, b) → ∃ e, L.exs[k]? = some e ∧ e.nm = x ∧ e.ini.isSome = b := fun {k x b} q => by
    have q' : (L.exs.map fun e => (e.nm, e.ini.isSome))[k]? = some (x, b) := q
    rw [List.getElem?_map] at q'
    cases z : L.exs[k]? with
    | none => rw [z] at q'; cases q'
    | some e =>
      rw [z] at q'
      cases q'
      exact ⟨e, rfl, rfl, rfl⟩
  have sbE : ∀ {k j : Nat} {b : Bool}, L.sb k j = some b → ∃ e e', L.exs[k]? = some e ∧ L.exs[j]? = some e' := fun {k j b} q => by
    unfold LawT.sb at q
    split at q
    · rename_i l ql
      have h1 := (List.getElem?_eq_some_iff.mp ql).1
      have h2 := (List.getElem?_eq_some_iff.mp q).1
      have h3 := s5 l (List.mem_of_getElem? ql)
      exact ⟨L.exs[k], L.exs[j], List.getElem?_eq_getElem (by omega), List.getElem?_eq_getElem (by omega)⟩
    · cases q
  refine ⟨fun f x n e => ?_, fun i x e => ?_, fun x hx => He.free_ok X M (o2 x hx), ⟨fun k x b e => ?_, fun k j b e => ?_, fun k b e => ?_, fun k x e => ?_⟩, fun k x e => ?_⟩
  · have e' : (L.nms.zip (L.fts.map fun t => t.F.n))[f]? = some (x, n) := e
    rw [List.getElem?_zip_eq_some] at e'
    obtain ⟨e1, e2⟩ := e'
    rw [List.getElem?_map] at e2
    cases q : L.fts[f]? with
    | none => rw [q] at e2; cases e2
    | some t =>
      rw [q] at e2
      cases e2
      have at_ : t.d.at_ = (x, none) := by
        have z := congrArg (fun l => l[f]?) s1
        simp only [List.getElem?_map, q, e1] at z
        exact Option.some.inj z
      have sf := s2 t (List.mem_of_getElem? q)
      unfold stF at sf
      simp only [Bool.and_eq_true, decide_eq_true_eq, List.isEmpty_iff] at sf
      obtain ⟨f1, f2, f3, f4, f5, f6⟩ := sf
      obtain ⟨fd, FD⟩ := c.dd (i := f) (d := t.d) (by
        show (L.fts.map (·.d) ++ iniD L.exs)[f]? = _
        rw [List.getElem?_append_left (by rw [List.length_map]; exact (List.getElem?_eq_some_iff.mp q).1), List.getElem?_map, q]
        rfl)
      have e3 : t.d.dvs K = [] := by unfold He.DefD.dvs; rw [f4]; rfl
      have e4 : He.fAd K t.d.at_ = He.ga K x := by rw [at_]; rfl
      rw [e3, e4] at FD
      refine ⟨t.F, _, fd, t.ps, by show (L.fts.map (·.F))[f]? = _; rw [List.getElem?_map, q]; rfl, rfl, ⟨⟨_, _, _, _, _, _, t.N, _, FD, fsB_ok f1, f2, f3, f6⟩, He.glo_ok X M (o1 x (List.mem_of_getElem? e1)), FD.bindsN (bd.get q), fun s us hl => FD.bindsA (bd.get q) s us hl⟩⟩
  · have e' : (L.gls.map (·.1))[i]? = some x := e
    rw [List.getElem?_map] at e'
    cases q : L.gls[i]? with
    | none => rw [q] at e'; cases e'
    | some p =>
      rw [q] at e'
      cases e'
      have z := gOk_ok X M (o3 p (List.mem_of_getElem? q))
      have e5 : L.gl i = p.2 := by unfold LawT.gl; rw [q]
      rw [e5]
      exact z
  · obtain ⟨e', q, rfl, rfl⟩ := exG e
    obtain ⟨k1, k2, k3, k4⟩ := exK q
    unfold exOk at k2
    simp only [Bool.and_eq_true, decide_eq_true_eq] at k2
    rw [k1]
    exact ⟨He.glo_ok X M k2.1, (exaB_ok k2.2.1).kp⟩
  · obtain ⟨e1, e2, q1, q2⟩ := sbE e
    obtain ⟨k1, k2, k3, k4⟩ := exK q1
    unfold exOk at k2
    simp only [Bool.and_eq_true, decide_eq_true_eq] at k2
    unfold sbOk at o5
    simp only [List.all_eq_true, List.mem_range] at o5
    have z := o5 k (List.getElem?_eq_some_iff.mp q1).1 j (List.getElem?_eq_some_iff.mp q2).1
    rw [e] at z
    simp only [Bool.and_eq_true, decide_eq_true_eq] at z
    exact ⟨by rw [k1]; exact exaB_ok k2.2.1, z.1, z.2⟩
  · obtain ⟨e1, e2, q1, q2⟩ := sbE e
    obtain ⟨k1, k2, k3, k4⟩ := exK q1
    unfold exOk at k2
    simp only [Bool.and_eq_true, decide_eq_true_eq] at k2
    rw [k1]
    exact ⟨k2.2.2.1, k2.2.2.2.1⟩
  · obtain ⟨e', q, rfl, hi⟩ := exG e
    obtain ⟨k1, k2, k3, k4⟩ := exK q
    unfold exOk at k2
    simp only [Bool.and_eq_true, decide_eq_true_eq] at k2
    have k5 := k2.2.2.2.2
    cases z : e'.ini with
    | some p => rw [z] at hi; cases hi
    | none =>
      rw [z] at k5
      obtain ⟨l1, l2, l3, l4⟩ := He.exc_ok k5
      rw [k1]
      exact ⟨l1, l3, l4⟩
  · obtain ⟨e', q, rfl, hi⟩ := exG e
    obtain ⟨k1, k2, k3, k4⟩ := exK q
    unfold exOk at k2
    simp only [Bool.and_eq_true, decide_eq_true_eq] at k2
    have k5 := k2.2.2.2.2
    cases z : e'.ini with
    | none => rw [z] at hi; cases hi
    | some p =>
      obtain ⟨d, B⟩ := p
      rw [z] at k5
      simp only [Bool.and_eq_true, decide_eq_true_eq] at k5
      obtain ⟨l1, l2, l3, l4, l5⟩ := k5
      unfold exSt at k3
      rw [z] at k3
      simp only [Bool.and_eq_true, decide_eq_true_eq, List.isEmpty_iff] at k3
      obtain ⟨m1, m2, m3, m4, m5⟩ := k3
      unfold BindE at k4
      rw [z] at k4
      have hm : d ∈ L.fn := List.mem_append_right _ (List.mem_filterMap.mpr ⟨e', List.mem_of_getElem? q, by rw [z]; rfl⟩)
      obtain ⟨i, hi⟩ := List.mem_iff_getElem?.mp hm
      obtain ⟨fd, FD⟩ := c.dd hi
      have e3 : d.dvs K = [] := by unfold He.DefD.dvs; rw [m4]; rfl
      have e5 : d.kws K = [] := by unfold He.DefD.kws; rw [m5]; rfl
      have e4 : He.fAd K d.at_ = He.ma K (He.ga K e'.nm) "__init__" := by rw [m1]; rfl
      rw [e3, e4, e5] at FD
      rw [k1]
      exact ⟨oexB_ok l1, (exaB_ok k2.2.1).nw, _, fd, l2, l3, FD.bindsN k4, _, _, B, _, _, _, _, FD, fsB_ok m2, m3, He.glo_ok X M l4, inkB_ok l5⟩
/-! ### the law's end -/
theorem dq_ints {K : PySem.W.Frag} {F : Hp} : ∀ ns : List Int, DqAll K F (ns.map V.int) (ns.map PyData.int)
  | [] => .nil
  | n :: ns => .cons (.int n) (dq_ints ns)
theorem law_end {l : PySem.W.OpenLaw} {q : Program} {loose : List Str} {XP : (Str → Option Value) → Heap → Prop} {d : DefRec} {L : LawT} {t : FnT} {fL W n : Nat} (hn : l.most = some 63) (hdf : d.params.defaults = []) (hr : Room (4 * (n + 1)) callerA)
    (st : L.st = true) (bd : AllT BindT L.fts) (be : AllT BindE L.exs) (ht : L.fts[fL]? = some t) (h1 : t.F.n = 1) (hnm : L.nms[fL]? = some d.name)
    (law : ∀ ns : List Int, ns.length ≤ 63 → ∃ s, run L.sb L.tb L.gl W (n + 1) fL [.s (ns.map PyData.int)] [] = .ok (.p (.bool true)) s) :
    PySem.W.WalkO q loose XP (hookK 6 L.ok L.fn).says l.row.toRowW d [] (fun f vs => PySem.call f vs) := by
  refine Att.attach_call hn hdf fun w s₀ s₁ mg mb fa o pm cd doc a vs ns G Y ho hd hcd hmg hobj hints hlen hg => ?_
  obtain ⟨K, KX, c⟩ := Y
  have tf := tbF_of KX G.T.g c st bd be
  obtain ⟨F, fa', fd, ps, e1, e2, hF⟩ := tf.fn fL d.name t.F.n (by
    show (L.nms.zip (L.fts.map fun t => t.F.n))[fL]? = _
    rw [List.getElem?_zip_eq_some, List.getElem?_map, ht]
    exact ⟨hnm, rfl⟩)
  have ea : fa' = fa := by
    have z := hF.mg.symm.trans hmg
    cases z
    rfl
  subst ea
  obtain ⟨qual, params, body, scope, dvs, kws, N, nm, k1, k2, k3, k4, k5⟩ := id hF.ex
  obtain ⟨x, rfl⟩ : ∃ x, ps = [x] := by
    have : ps.length = 1 := by omega
    match ps, this with
    | [x], _ => exact ⟨x, rfl⟩
  obtain ⟨sE, hE⟩ := law ns hlen
  refine law_callG (sp := spF K (L.cA K) (pgOf L.sb L.tb L.gl W (n + 1)) fL 1) KX G.T.g G.T.b G.T.builtins G.T.nolimit hg hobj hints (Nat.le_trans hlen (by decide)) hr (fun base _ _ => ?_) (fun s u => hF.bA s [u] rfl) fun H hO hS => ?_
  · exact fnG_step (gb_of tf n) e1 (by omega) hF
  · refine ⟨⟨H, []⟩, [.s (ns.map PyData.int)], [], ⟨fun _ _ z => z, rfl, List.nodup_nil, fun a m => (by cases m), fun n x a z => by cases z⟩, .cons ⟨a, _, rfl, hS, dq_ints ns⟩ .nil, rfl, ?_⟩
    show Post K _ _ H (run L.sb L.tb L.gl W (n + 1) fL [.s (ns.map PyData.int)] []) _ _
    rw [hE]
    intro c' H' _ _ v hv
    cases hv
    rfl
end
end G

namespace G
open PySem PySem.Spec PyProof.Rows L2
open Classical
noncomputable section
/-! ### evaluating by rows -/
section
variable {P : Pg} {e e1 : Env} {s s1 s2 s3 : Sto} {α β : Type}
theorem R.bind_cg {r r' : R α} (h : r = r') (f : α → Sto → R β) : r.bind f = r'.bind f := by rw [h]
theorem rOr_cg {r r' : Option α} (h : r = r') (f : α → R β) : rOr r f = rOr r' f := by rw [h]
theorem rOr_some (a : α) (k : α → R β) : rOr (some a) k = k a := rfl
def vr : Option (Option D) → Sto → R D
  | some (some d), s => .ok d s
  | _, _ => .bad
theorem vr_s (d : D) : vr (some (some d)) s = .ok d s := rfl
def brR (x : D) (a b : R D) : R D := match dBool x with
  | some true => a
  | some false => b
  | none => .bad
theorem brR_cg {x x' : D} (h : x = x') (a b : R D) : brR x a b = brR x' a b := by rw [h]
theorem brR_b (q : Bool) (a b : R D) : brR (.p (.bool q)) a b = if q = true then a else b := by cases q <;> rfl
theorem brR_t (a b : R D) : brR (.p (.bool true)) a b = a := rfl
theorem brR_f (a b : R D) : brR (.p (.bool false)) a b = b := rfl
theorem ev_v (i : Nat) : ev P (.v i) e s = vr (e[i]?) s := by
  simp only [ev]
  cases e[i]? with
  | none => rfl
  | some o => cases o <;> rfl
theorem ev_k (d : PyData) : ev P (.k d) e s = .ok (.p d) s := by simp only [ev]
theorem ev_g (i : Nat) : ev P (.g i) e s = .ok (.p (P.gl i)) s := by simp only [ev]
theorem ev_tup (es : Es) : ev P (.tup es) e s = (evs P es e s).bind fun xs s1 => mkT xs s1 := by simp only [ev]
theorem ev_lst (fl : Bool) (es : Es) : ev P (.lst fl es) e s = (evs P es e s).bind fun xs s1 => mkL fl xs s1 := by simp only [ev]
theorem ev_bin (op : Bop) (fl : Bool) (a b : E) : ev P (.bin op fl a b) e s = (ev P a e s).bind fun x s1 => (ev P b e s1).bind fun y s2 => binop op fl x y s2 := by simp only [ev]
theorem ev_neg (a : E) : ev P (.neg a) e s = (ev P a e s).bind fun x s1 => rOr (dInt x) fun i => .ok (.p (.int (-i))) s1 := by simp only [ev]
theorem ev_nt (a : E) : ev P (.nt a) e s = (ev P a e s).bind fun x s1 => rOr (dBool x) fun b => .ok (.p (.bool (!b))) s1 := by simp only [ev]
theorem ev_cmp (op : Cop) (a b : E) : ev P (.cmp op a b) e s = (ev P a e s).bind fun x s1 => (ev P b e s1).bind fun y s2 => cmpop op x y s2 := by simp only [ev]
theorem ev_chn (o1 o2 : Cop) (a b c : E) : ev P (.chn o1 o2 a b c) e s = (ev P a e s).bind fun x s1 => (ev P b e s1).bind fun y s2 => (cmpop o1 x y s2).bind fun z s3 => brR z ((ev P c e s3).bind fun w s4 => cmpop o2 y w s4) (.ok (.p (.bool false)) s3) := by
  simp only [ev]
  congr; funext x s1; congr; funext y s2; congr; funext z s3
  unfold brR rOr
  cases dBool z with
  | none => rfl
  | some q => cases q <;> rfl
theorem ev_an (a b : E) : ev P (.an a b) e s = (ev P a e s).bind fun x s1 => brR x (ev P b e s1) (.ok (.p (.bool false)) s1) := by
  simp only [ev]
  congr; funext x s1
  unfold brR rOr
  cases dBool x with
  | none => rfl
  | some q => cases q <;> rfl
theorem ev_orr (a b : E) : ev P (.orr a b) e s = (ev P a e s).bind fun x s1 => brR x (.ok (.p (.bool true)) s1) (ev P b e s1) := by
  simp only [ev]
  congr; funext x s1
  unfold brR rOr
  cases dBool x with
  | none => rfl
  | some q => cases q <;> rfl
theorem ev_ife (t a b : E) : ev P (.ife t a b) e s = (ev P t e s).bind fun x s1 => brR x (ev P a e s1) (ev P b e s1) := by
  simp only [ev]
  congr; funext x s1
  unfold brR rOr
  cases dBool x with
  | none => rfl
  | some q => cases q <;> rfl
theorem ev_ix (a i : E) : ev P (.ix a i) e s = (ev P a e s).bind fun x s1 => (ev P i e s1).bind fun y s2 => ixop x y s2 := by simp only [ev]
theorem ev_sl (fl : Bool) (a : E) (lo hi : Eo) : ev P (.sl fl a lo hi) e s = (ev P a e s).bind fun x s1 => (evo P lo e s1).bind fun l s2 => (evo P hi e s2).bind fun h s3 => slop fl x l h s3 := by simp only [ev]
theorem ev_rev (fl : Bool) (a : E) : ev P (.rev fl a) e s = (ev P a e s).bind fun x s1 => revop fl x s1 := by simp only [ev]
theorem ev_call (f : Nat) (es : Es) : ev P (.call f es) e s = (evs P es e s).bind fun xs s1 => P.Φ f xs s1 := by simp only [ev]
theorem ev_bi (b : Bi) (fl : Bool) (a : E) : ev P (.bi b fl a) e s = (ev P a e s).bind fun x s1 => biop b fl x s1 := by simp only [ev]
theorem ev_isi (a : E) (t : Ty) : ev P (.isi a t) e s = (ev P a e s).bind fun x s1 => isiop s1 x t := by simp only [ev]
theorem ev_isx (a : E) (t : Option Nat) : ev P (.isx a t) e s = (ev P a e s).bind fun x s1 => bR (isiX P.sb s1 x t) s1 := by simp only [ev]
theorem ev_app (a x : E) : ev P (.app a x) e s = (ev P a e s).bind fun l s1 => rOr (asL s1 l) fun _ => (ev P x e s1).bind fun y s2 => appop l y s2 := by simp only [ev]
theorem ev_ins (a i x : E) : ev P (.ins a i x) e s = (ev P a e s).bind fun l s1 => rOr (asL s1 l) fun _ => (ev P i e s1).bind fun j s2 => (ev P x e s2).bind fun y s3 => insop l j y s3 := by simp only [ev]
theorem ev_frz (a : E) : ev P (.frz a) e s = (ev P a e s).bind fun x s1 => rOr (G.frz 8 x s1) fun q => .ok (.p q.1) q.2 := by simp only [ev]
theorem ev_fld (a : E) (f : Str) : ev P (.fld a f) e s = (ev P a e s).bind fun x s1 => fldop P.sb x f s1 := by simp only [ev]
theorem evs_nil : evs P .nil e s = .ok [] s := by simp only [evs]
theorem evs_cons (a : E) (es : Es) : evs P (.cons a es) e s = (ev P a e s).bind fun x s1 => (evs P es e s1).bind fun xs s2 => .ok (x :: xs) s2 := by simp only [evs]
theorem evo_no : evo P .no e s = .ok none s := by simp only [evo]
theorem evo_so (a : E) : evo P (.so a) e s = (ev P a e s).bind fun x s1 => rOr (dInt x) fun i => .ok (some i) s1 := by simp only [evo]
/-! operations -/
theorem dInt_i (i : Int) : dInt (.p (.int i)) = some i := rfl
theorem dBool_b (i : Bool) : dBool (.p (.bool i)) = some i := rfl
theorem b_add (fl : Bool) (i j : Int) : binop .add fl (.p (.int i)) (.p (.int j)) s = .ok (.p (.int (i + j))) s := rfl
theorem b_sub (fl : Bool) (i j : Int) : binop .sub fl (.p (.int i)) (.p (.int j)) s = .ok (.p (.int (i - j))) s := rfl
theorem b_mul (fl : Bool) {i j : Int} (h : CMul i j ∨ CMulW i j) : binop .mul fl (.p (.int i)) (.p (.int j)) s = .ok (.p (.int (i * j))) s := if_pos h
theorem b_fdiv (fl : Bool) {i j : Int} (h : 0 < j) (h2 : j < 1073741824 ∨ j.natAbs.log2 < 9000) : binop .fdiv fl (.p (.int i)) (.p (.int j)) s = .ok (.p (.int (i / j))) s := if_pos ⟨h, h2⟩
theorem b_mod (fl : Bool) {i j : Int} (h : 0 < j) : binop .mod fl (.p (.int i)) (.p (.int j)) s = .ok (.p (.int (i % j))) s := if_pos h
theorem b_pow (fl : Bool) {i j : Int} (h : 0 ≤ j ∧ (Builtin.Int.intBits i : Int) * j ≤ 2 ^ 27) : binop .pow fl (.p (.int i)) (.p (.int j)) s = .ok (.p (.int (i ^ j.toNat))) s := if_pos h
theorem b_pow18 (fl : Bool) : binop .pow fl (.p (.int 10)) (.p (.int 18)) s = .ok (.p (.int 1000000000000000000)) s := (b_pow fl (by decide)).trans (by rfl)
theorem b_pow9 (fl : Bool) : binop .pow fl (.p (.int 10)) (.p (.int 9)) s = .ok (.p (.int 1000000000)) s := (b_pow fl (by decide)).trans (by rfl)
theorem b_cat (fl : Bool) {x y : D} {xs ys : List D} (hx : asL s x = some xs) (hy : asL s y = some ys) : binop .add fl x y s = mkL fl (xs ++ ys) s := by
  have nx : dInt x = none := by
    cases x with
    | p d => cases d <;> first | rfl | cases hx
    | o n => rfl
    | s l => rfl
  unfold binop
  rw [nx, hx, hy]
theorem c_lt (i j : Int) : cmpop .lt (.p (.int i)) (.p (.int j)) s = .ok (.p (.bool (decide (i < j)))) s := rfl
theorem c_le (i j : Int) : cmpop .le (.p (.int i)) (.p (.int j)) s = .ok (.p (.bool (decide (i ≤ j)))) s := rfl
theorem c_gt (i j : Int) : cmpop .gt (.p (.int i)) (.p (.int j)) s = .ok (.p (.bool (decide (j < i)))) s := rfl
theorem c_ge (i j : Int) : cmpop .ge (.p (.int i)) (.p (.int j)) s = .ok (.p (.bool (decide (j ≤ i)))) s := rfl
theorem c_is (x : D) : cmpop .is_ x (.p .none) s = .ok (.p (.bool (isNone x))) s := by unfold cmpop; exact if_pos rfl
theorem c_isn (x : D) : cmpop .isn x (.p .none) s = .ok (.p (.bool (!isNone x))) s := by unfold cmpop; exact if_pos rfl
theorem i_ix {x v : D} {xs : List D} {i : Int} (hx : asSq s x = some xs) (hv : atI xs i = some v) : ixop x (.p (.int i)) s = .ok v s := by
  unfold ixop
  rw [dInt_i, hx]
  dsimp only
  rw [hv]
theorem l_len (fl : Bool) {x : D} {xs : List D} (hx : asSq s x = some xs) : biop .len fl x s = .ok (.p (.int (xs.length : Int))) s := by
  unfold biop
  rw [hx]
theorem cel_of {n : Nat} {x : Cell} (h : s[n]? = some (some x)) : cel s n = some x := by unfold cel; rw [h]
theorem asL_p (ds : List PyData) : asL s (.p (.list ds)) = some (ds.map .p) := rfl
theorem asL_o {n : Nat} {xs : List D} (h : s[n]? = some (some (.lst xs))) : asL s (.o n) = some xs := by
  show (match cel s n with | some (.lst xs) => some xs | _ => none) = _
  rw [cel_of h]
theorem asSq_o {n : Nat} {xs : List D} (h : s[n]? = some (some (.lst xs))) : asSq s (.o n) = some xs := by unfold asSq; rw [asL_o h]
theorem asSq_l (ds : List PyData) : asSq s (.p (.list ds)) = some (ds.map .p) := rfl
theorem asSq_t (ds : List PyData) : asSq s (.p (.tuple ds)) = some (ds.map .p) := rfl
theorem s_set {n j : Nat} {y : D} {xs : List D} {i : Int} (h : s[n]? = some (some (.lst xs))) (hj : ixN xs.length i = some j) : setop (.o n) (.p (.int i)) y s = .ok () (s.set n (some (.lst (xs.set j y)))) := by
  unfold setop
  rw [dInt_i]
  dsimp only
  rw [cel_of h]
  dsimp only
  rw [hj]
/-! rows -/
theorem st_asg {tg : Tg} {a : E} {r : Ss} {d : D} (h : ev P a e s = .ok d s1) (hb : bindT tg (.one d) s1 e = some e1) : exs P (.cons (.asg tg a) r) e s = exs P r e1 s1 := by
  simp only [exs, exe, h, toS_ok, bindS, hb, RS.nxt_nx]
theorem st_seti {a i x : E} {r : Ss} {y l j : D} {s4 : Sto} (h1 : ev P x e s = .ok y s1) (h2 : ev P a e s1 = .ok l s2) (h3 : ev P i e s2 = .ok j s3) (h4 : setop l j y s3 = .ok () s4) : exs P (.cons (.seti a i x) r) e s = exs P r e s4 := by
  simp only [exs, exe, h1, h2, h3, h4, toS_ok, RS.nxt_nx]
theorem st_ex {a : E} {r : Ss} {d : D} (h : ev P a e s = .ok d s1) : exs P (.cons (.ex a) r) e s = exs P r e s1 := by
  simp only [exs, exe, h, toS_ok, RS.nxt_nx]
theorem st_ret {a : E} {r : Ss} {d : D} (h : ev P a e s = .ok d s1) : exs P (.cons (.ret a) r) e s = .rt d s1 := by
  simp only [exs, exe, h, toS_ok, RS.nxt_rt]
theorem st_if {t : E} {a b r : Ss} {q : Bool} (h : ev P t e s = .ok (.p (.bool q)) s1) : exs P (.cons (.ifs t a b) r) e s = (if q = true then exs P a e s1 else exs P b e s1).nxt fun e1 s1 => exs P r e1 s1 := by
  simp only [exs, exe, evc, h, R.bind_ok, dBool_b, rOr_some, toS_ok]
theorem st_ifT {t : E} {a b r : Ss} (h : ev P t e s = .ok (.p (.bool true)) s1) : exs P (.cons (.ifs t a b) r) e s = (exs P a e s1).nxt fun e1 s1 => exs P r e1 s1 := by
  rw [st_if h, if_pos rfl]
theorem st_ifF {t : E} {a b r : Ss} (h : ev P t e s = .ok (.p (.bool false)) s1) : exs P (.cons (.ifs t a b) r) e s = (exs P b e s1).nxt fun e1 s1 => exs P r e1 s1 := by
  rw [st_if h, if_neg Bool.false_ne_true]
theorem st_nil : exs P .nil e s = .nx e s := by simp only [exs]
end
/-- the numbers that a cell holds -/
def iD (l : List Int) : List D := l.map fun i => .p (.int i)
theorem iD_len (l : List Int) : (iD l).length = l.length := List.length_map ..
theorem iD_get {l : List Int} {i : Nat} (h : i < l.length) : (iD l)[i]? = some (.p (.int l[i])) := by
  unfold iD
  rw [List.getElem?_map, List.getElem?_eq_getElem h]
  rfl
theorem iD_set (l : List Int) (i : Nat) (z : Int) : (iD l).set i (.p (.int z)) = iD (l.set i z) := by unfold iD; rw [List.map_set]
theorem ixN_nat {n k : Nat} (h : k < n) : ixN n (k : Int) = some k := by
  unfold ixN
  rw [if_pos (by omega), if_pos (by omega)]
  simp
/-- the purse at p, its cells at c: there may be k more draws -/
structure Pu (s : Sto) (p c k : Nat) : Prop where
  ne : p ≠ c
  ex : ∃ (l : List Int) (t : Int), s[p]? = some (some (.lst [.o c, .p (.int t)])) ∧ s[c]? = some (some (.lst (iD l))) ∧ l ≠ [] ∧ l.length ≤ 63 ∧ 0 ≤ t ∧ t + (k : Int) ≤ 1000000000000
theorem Pu.le {s : Sto} {p c k j : Nat} (h : Pu s p c k) (hj : j ≤ k) : Pu s p c j := ⟨h.ne, let ⟨l, t, h1, h2, h3, h4, h5, h6⟩ := h.ex; ⟨l, t, h1, h2, h3, h4, h5, by omega⟩⟩
/-- all but p and c stays -/
def Kp (p c : Nat) (s s' : Sto) : Prop := s'.length = s.length ∧ ∀ n, n ≠ p → n ≠ c → s'[n]? = s[n]?
theorem Kp.refl {p c : Nat} (s : Sto) : Kp p c s s := ⟨rfl, fun _ _ _ => rfl⟩
theorem Kp.trans {p c : Nat} {s1 s2 s3 : Sto} (a : Kp p c s1 s2) (b : Kp p c s2 s3) : Kp p c s1 s3 := ⟨b.1.trans a.1, fun n h1 h2 => (b.2 n h1 h2).trans (a.2 n h1 h2)⟩
theorem Pu.lt {s : Sto} {p c k : Nat} (h : Pu s p c k) : p < s.length ∧ c < s.length := by
  obtain ⟨l, t, h1, h2, _⟩ := h.ex
  exact ⟨(List.getElem?_eq_some_iff.mp h1).1, (List.getElem?_eq_some_iff.mp h2).1⟩
theorem cut_kp {s s' : Sto} {p c k : Nat} (h : Pu s' p c k) (x : Kp p c s s') : cut s s' = some s' := by
  unfold cut
  obtain ⟨l, t, h1, h2, _⟩ := h.ex
  obtain ⟨l1, l2⟩ := h.lt
  rw [if_pos]
  · rw [← x.1, List.take_length]
  · intro n hn
    by_cases e1 : n = p
    · refine .inr fun y hy => ?_
      rw [e1, h1] at hy
      cases hy
      intro z hz
      rcases List.mem_cons.mp hz with rfl | hz
      · show c < s.length
        rw [← x.1]
        exact l2
      · rcases List.mem_cons.mp hz with rfl | hz
        · trivial
        · cases hz
    · by_cases e2 : n = c
      · refine .inr fun y hy => ?_
        rw [e2, h2] at hy
        cases hy
        intro z hz
        unfold iD at hz
        obtain ⟨i, _, rfl⟩ := List.mem_map.mp hz
        trivial
      · exact .inl (x.2 n e1 e2)
def bDraw : Ss := (.cons (.asg (.tp [5, 6]) (.v 0)) (.cons (.asg (.nm 2) (.bin .mod false (.v 6) (.bi .len false (.v 5)))) (.cons (.asg (.nm 3) (.ix (.v 5) (.v 2))) (.cons (.seti (.v 0) (.k (.int 1)) (.bin .add false (.v 6) (.k (.int 1)))) (.cons (.ifs (.cmp .ge (.v 3) (.bin .pow false (.k (.int 10)) (.k (.int 18)))) (.cons (.seti (.v 5) (.v 2) (.bin .fdiv false (.v 3) (.v 1))) (.cons (.ret (.bin .mod false (.v 3) (.v 1))) .nil)) .nil) (.cons (.asg (.nm 4) (.bin .mod false (.bin .add false (.bin .add false (.bin .mul false (.bin .mod false (.v 3) (.k (.int 2147483629))) (.k (.int 48271))) (.bin .mul false (.bin .mul false (.v 6) (.v 6)) (.k (.int 69621)))) (.k (.int 11))) (.k (.int 2147483647)))) (.cons (.asg (.nm 4) (.bin .mod false (.bin .mul false (.v 4) (.v 4)) (.k (.int 2147483629)))) (.cons (.asg (.nm 4) (.bin .mod false (.bin .mul false (.v 4) (.v 4)) (.k (.int 2147483587)))) (.cons (.ifs (.cmp .gt (.v 1) (.bin .pow false (.k (.int 10)) (.k (.int 9)))) (.cons (.asg (.nm 7) (.bin .mod false (.bin .add false (.bin .add false (.bin .mul false (.v 4) (.k (.int 39373))) (.bin .mul false (.v 6) (.k (.int 7919)))) (.k (.int 500))) (.k (.int 2147483629)))) (.cons (.asg (.nm 4) (.bin .mul false (.v 4) (.bin .add false (.bin .mul false (.bin .mul false (.v 7) (.v 7)) (.v 7)) (.k (.int 1))))) .nil)) .nil) (.cons (.ret (.bin .mod false (.v 4) (.v 1))) .nil))))))))))
theorem small_mul {i j : Int} (h1 : 0 ≤ i) (h2 : i < 18446744073709551616) : CMul i j ∨ CMulW i j := .inl (.inl ⟨by omega, by omega⟩)
theorem draw_ev (P : Pg) {s : Sto} {p c k : Nat} {m : Int} (h : Pu s p c (k + 1)) (hm : 0 < m) (hM : m ≤ 1000000000) : ∃ (r : Int) (s' : Sto),
    exs P bDraw [some (.o p), some (.p (.int m)), none, none, none, none, none, none] s = .rt (.p (.int r)) s' ∧ 0 ≤ r ∧ r < m ∧ Pu s' p c k ∧ Kp p c s s' := by
  obtain ⟨l, t, hp, hc, l0, lz, t0, tz⟩ := h.ex
  obtain ⟨lp1, lc1⟩ := h.lt
  have e1 := asSq_o hp
  have e2 := asSq_o hc
  have lp : (0 : Int) < ((iD l).length : Int) := by
    rw [iD_len]
    cases l with
    | nil => exact absurd rfl l0
    | cons _ _ => simp
  obtain ⟨j, hk, hkl⟩ : ∃ j : Nat, t % ((iD l).length : Int) = (j : Int) ∧ j < l.length := by
    refine ⟨(t % ((iD l).length : Int)).toNat, (Int.toNat_of_nonneg (Int.emod_nonneg _ (by omega))).symm, ?_⟩
    have h1 := Int.emod_lt_of_pos t lp
    have h2 := Int.emod_nonneg t (show ((iD l).length : Int) ≠ 0 by omega)
    rw [iD_len] at h1 h2 ⊢
    omega
  unfold bDraw
  rw [st_asg (by simp only [ev_v, ev_k, ev_g, ev_tup, ev_lst, ev_bin, ev_neg, ev_nt, ev_cmp, ev_chn, ev_an, ev_orr, ev_ife, ev_ix, ev_sl, ev_rev, ev_call, ev_bi, ev_isi, ev_isx, ev_app, ev_ins, ev_frz, ev_fld, evs_nil, evs_cons, evo_no, evo_so, G.R.bind_ok, rOr_some, vr_s, dInt_i, dBool_b, b_add, b_sub, b_pow18, b_pow9, c_lt, c_le, c_gt, c_ge, c_is, c_isn, List.getElem?_cons_succ, List.getElem?_cons_zero, List.set_cons_succ, List.set_cons_zero, brR_t, brR_f] <;> rfl) (by simp only [bindT, e1]; rfl)]
  rw [st_asg (by simp only [ev_v, ev_k, ev_g, ev_tup, ev_lst, ev_bin, ev_neg, ev_nt, ev_cmp, ev_chn, ev_an, ev_orr, ev_ife, ev_ix, ev_sl, ev_rev, ev_call, ev_bi, ev_isi, ev_isx, ev_app, ev_ins, ev_frz, ev_fld, evs_nil, evs_cons, evo_no, evo_so, G.R.bind_ok, rOr_some, vr_s, dInt_i, dBool_b, b_add, b_sub, b_pow18, b_pow9, c_lt, c_le, c_gt, c_ge, c_is, c_isn, List.getElem?_cons_succ, List.getElem?_cons_zero, List.set_cons_succ, List.set_cons_zero, brR_t, brR_f, l_len false e2, b_mod false lp, hk] <;> rfl) rfl]
  rw [st_asg (by simp only [ev_v, ev_k, ev_g, ev_tup, ev_lst, ev_bin, ev_neg, ev_nt, ev_cmp, ev_chn, ev_an, ev_orr, ev_ife, ev_ix, ev_sl, ev_rev, ev_call, ev_bi, ev_isi, ev_isx, ev_app, ev_ins, ev_frz, ev_fld, evs_nil, evs_cons, evo_no, evo_so, G.R.bind_ok, rOr_some, vr_s, dInt_i, dBool_b, b_add, b_sub, b_pow18, b_pow9, c_lt, c_le, c_gt, c_ge, c_is, c_isn, List.getElem?_cons_succ, List.getElem?_cons_zero, List.set_cons_succ, List.set_cons_zero, brR_t, brR_f, i_ix e2 (atI_nat (iD_get hkl))] <;> rfl) rfl]
  rw [st_seti (by simp only [ev_v, ev_k, ev_g, ev_tup, ev_lst, ev_bin, ev_neg, ev_nt, ev_cmp, ev_chn, ev_an, ev_orr, ev_ife, ev_ix, ev_sl, ev_rev, ev_call, ev_bi, ev_isi, ev_isx, ev_app, ev_ins, ev_frz, ev_fld, evs_nil, evs_cons, evo_no, evo_so, G.R.bind_ok, rOr_some, vr_s, dInt_i, dBool_b, b_add, b_sub, b_pow18, b_pow9, c_lt, c_le, c_gt, c_ge, c_is, c_isn, List.getElem?_cons_succ, List.getElem?_cons_zero, List.set_cons_succ, List.set_cons_zero, brR_t, brR_f] <;> rfl) (by simp only [ev_v, ev_k, ev_g, ev_tup, ev_lst, ev_bin, ev_neg, ev_nt, ev_cmp, ev_chn, ev_an, ev_orr, ev_ife, ev_ix, ev_sl, ev_rev, ev_call, ev_bi, ev_isi, ev_isx, ev_app, ev_ins, ev_frz, ev_fld, evs_nil, evs_cons, evo_no, evo_so, G.R.bind_ok, rOr_some, vr_s, dInt_i, dBool_b, b_add, b_sub, b_pow18, b_pow9, c_lt, c_le, c_gt, c_ge, c_is, c_isn, List.getElem?_cons_succ, List.getElem?_cons_zero, List.set_cons_succ, List.set_cons_zero, brR_t, brR_f] <;> rfl) (by simp only [ev_v, ev_k, ev_g, ev_tup, ev_lst, ev_bin, ev_neg, ev_nt, ev_cmp, ev_chn, ev_an, ev_orr, ev_ife, ev_ix, ev_sl, ev_rev, ev_call, ev_bi, ev_isi, ev_isx, ev_app, ev_ins, ev_frz, ev_fld, evs_nil, evs_cons, evo_no, evo_so, G.R.bind_ok, rOr_some, vr_s, dInt_i, dBool_b, b_add, b_sub, b_pow18, b_pow9, c_lt, c_le, c_gt, c_ge, c_is, c_isn, List.getElem?_cons_succ, List.getElem?_cons_zero, List.set_cons_succ, List.set_cons_zero, brR_t, brR_f] <;> rfl) (s_set hp rfl)]
  generalize l[j] = z
  have hp2 : (s.set p (some (Cell.lst [D.o c, D.p (PyData.int (t + 1))])))[p]? = some (some (.lst [.o c, .p (.int (t + 1))])) := List.getElem?_set_self lp1
  have hc2 : (s.set p (some (Cell.lst [D.o c, D.p (PyData.int (t + 1))])))[c]? = some (some (.lst (iD l))) := by
    rw [List.getElem?_set_ne h.ne]
    exact hc
  by_cases hz : (1000000000000000000 : Int) ≤ z
  · rw [st_ifT (by simp only [ev_v, ev_k, ev_g, ev_tup, ev_lst, ev_bin, ev_neg, ev_nt, ev_cmp, ev_chn, ev_an, ev_orr, ev_ife, ev_ix, ev_sl, ev_rev, ev_call, ev_bi, ev_isi, ev_isx, ev_app, ev_ins, ev_frz, ev_fld, evs_nil, evs_cons, evo_no, evo_so, G.R.bind_ok, rOr_some, vr_s, dInt_i, dBool_b, b_add, b_sub, b_pow18, b_pow9, c_lt, c_le, c_gt, c_ge, c_is, c_isn, List.getElem?_cons_succ, List.getElem?_cons_zero, List.set_cons_succ, List.set_cons_zero, brR_t, brR_f, decide_eq_true hz] <;> rfl)]
    rw [st_seti (by simp only [ev_v, ev_k, ev_g, ev_tup, ev_lst, ev_bin, ev_neg, ev_nt, ev_cmp, ev_chn, ev_an, ev_orr, ev_ife, ev_ix, ev_sl, ev_rev, ev_call, ev_bi, ev_isi, ev_isx, ev_app, ev_ins, ev_frz, ev_fld, evs_nil, evs_cons, evo_no, evo_so, G.R.bind_ok, rOr_some, vr_s, dInt_i, dBool_b, b_add, b_sub, b_pow18, b_pow9, c_lt, c_le, c_gt, c_ge, c_is, c_isn, List.getElem?_cons_succ, List.getElem?_cons_zero, List.set_cons_succ, List.set_cons_zero, brR_t, brR_f, b_fdiv false hm (.inl (show m < 1073741824 by omega))] <;> rfl) (by simp only [ev_v, ev_k, ev_g, ev_tup, ev_lst, ev_bin, ev_neg, ev_nt, ev_cmp, ev_chn, ev_an, ev_orr, ev_ife, ev_ix, ev_sl, ev_rev, ev_call, ev_bi, ev_isi, ev_isx, ev_app, ev_ins, ev_frz, ev_fld, evs_nil, evs_cons, evo_no, evo_so, G.R.bind_ok, rOr_some, vr_s, dInt_i, dBool_b, b_add, b_sub, b_pow18, b_pow9, c_lt, c_le, c_gt, c_ge, c_is, c_isn, List.getElem?_cons_succ, List.getElem?_cons_zero, List.set_cons_succ, List.set_cons_zero, brR_t, brR_f] <;> rfl) (by simp only [ev_v, ev_k, ev_g, ev_tup, ev_lst, ev_bin, ev_neg, ev_nt, ev_cmp, ev_chn, ev_an, ev_orr, ev_ife, ev_ix, ev_sl, ev_rev, ev_call, ev_bi, ev_isi, ev_isx, ev_app, ev_ins, ev_frz, ev_fld, evs_nil, evs_cons, evo_no, evo_so, G.R.bind_ok, rOr_some, vr_s, dInt_i, dBool_b, b_add, b_sub, b_pow18, b_pow9, c_lt, c_le, c_gt, c_ge, c_is, c_isn, List.getElem?_cons_succ, List.getElem?_cons_zero, List.set_cons_succ, List.set_cons_zero, brR_t, brR_f] <;> rfl) (s_set hc2 (ixN_nat (by rw [iD_len]; exact hkl)))]
    rw [st_ret (by simp only [ev_v, ev_k, ev_g, ev_tup, ev_lst, ev_bin, ev_neg, ev_nt, ev_cmp, ev_chn, ev_an, ev_orr, ev_ife, ev_ix, ev_sl, ev_rev, ev_call, ev_bi, ev_isi, ev_isx, ev_app, ev_ins, ev_frz, ev_fld, evs_nil, evs_cons, evo_no, evo_so, G.R.bind_ok, rOr_some, vr_s, dInt_i, dBool_b, b_add, b_sub, b_pow18, b_pow9, c_lt, c_le, c_gt, c_ge, c_is, c_isn, List.getElem?_cons_succ, List.getElem?_cons_zero, List.set_cons_succ, List.set_cons_zero, brR_t, brR_f, b_mod false hm] <;> rfl)]
    rw [RS.nxt_rt, iD_set]
    refine ⟨z % m, _, rfl, Int.emod_nonneg _ (by omega), Int.emod_lt_of_pos _ hm, ⟨h.ne, l.set j (z / m), t + 1, ?_, ?_, ?_, ?_, by omega, by omega⟩, ?_, fun n n1 n2 => ?_⟩
    · rw [List.getElem?_set_ne (Ne.symm h.ne)]
      exact hp2
    · exact List.getElem?_set_self (by rw [List.length_set]; exact lc1)
    · intro q
      have := congrArg List.length q
      rw [List.length_set] at this
      exact l0 (List.length_eq_zero_iff.mp this)
    · rw [List.length_set]
      exact lz
    · rw [List.length_set, List.length_set]
    · rw [List.getElem?_set_ne (Ne.symm n2), List.getElem?_set_ne (Ne.symm n1)]
  · rw [st_ifF (by simp only [ev_v, ev_k, ev_g, ev_tup, ev_lst, ev_bin, ev_neg, ev_nt, ev_cmp, ev_chn, ev_an, ev_orr, ev_ife, ev_ix, ev_sl, ev_rev, ev_call, ev_bi, ev_isi, ev_isx, ev_app, ev_ins, ev_frz, ev_fld, evs_nil, evs_cons, evo_no, evo_so, G.R.bind_ok, rOr_some, vr_s, dInt_i, dBool_b, b_add, b_sub, b_pow18, b_pow9, c_lt, c_le, c_gt, c_ge, c_is, c_isn, List.getElem?_cons_succ, List.getElem?_cons_zero, List.set_cons_succ, List.set_cons_zero, brR_t, brR_f, decide_eq_false hz] <;> rfl), st_nil, RS.nxt_nx]
    have a1 := Int.emod_nonneg z (show (2147483629 : Int) ≠ 0 by decide)
    have a2 := Int.emod_lt_of_pos z (show (0 : Int) < 2147483629 by decide)
    rw [st_asg (by simp only [ev_v, ev_k, ev_g, ev_tup, ev_lst, ev_bin, ev_neg, ev_nt, ev_cmp, ev_chn, ev_an, ev_orr, ev_ife, ev_ix, ev_sl, ev_rev, ev_call, ev_bi, ev_isi, ev_isx, ev_app, ev_ins, ev_frz, ev_fld, evs_nil, evs_cons, evo_no, evo_so, G.R.bind_ok, rOr_some, vr_s, dInt_i, dBool_b, b_add, b_sub, b_pow18, b_pow9, c_lt, c_le, c_gt, c_ge, c_is, c_isn, List.getElem?_cons_succ, List.getElem?_cons_zero, List.set_cons_succ, List.set_cons_zero, brR_t, brR_f, b_mod false (show (0 : Int) < 2147483629 by decide), b_mul false (small_mul a1 (by omega)), b_mul false (small_mul t0 (show t < 18446744073709551616 by omega)), b_mul false (i := t * t) (j := 69621) (.inl (.inr ⟨by decide, by decide⟩)), b_mod false (show (0 : Int) < 2147483647 by decide)] <;> rfl) rfl]
    generalize (z % 2147483629 * 48271 + t * t * 69621 + 11) = y
    have b1 := Int.emod_nonneg y (show (2147483647 : Int) ≠ 0 by decide)
    have b2 := Int.emod_lt_of_pos y (show (0 : Int) < 2147483647 by decide)
    generalize y % 2147483647 = x at b1 b2 ⊢
    rw [st_asg (by simp only [ev_v, ev_k, ev_g, ev_tup, ev_lst, ev_bin, ev_neg, ev_nt, ev_cmp, ev_chn, ev_an, ev_orr, ev_ife, ev_ix, ev_sl, ev_rev, ev_call, ev_bi, ev_isi, ev_isx, ev_app, ev_ins, ev_frz, ev_fld, evs_nil, evs_cons, evo_no, evo_so, G.R.bind_ok, rOr_some, vr_s, dInt_i, dBool_b, b_add, b_sub, b_pow18, b_pow9, c_lt, c_le, c_gt, c_ge, c_is, c_isn, List.getElem?_cons_succ, List.getElem?_cons_zero, List.set_cons_succ, List.set_cons_zero, brR_t, brR_f, b_mul false (small_mul b1 (show x < 18446744073709551616 by omega)), b_mod false (show (0 : Int) < 2147483629 by decide)] <;> rfl) rfl]
    have c1 := Int.emod_nonneg (x * x) (show (2147483629 : Int) ≠ 0 by decide)
    have c2 := Int.emod_lt_of_pos (x * x) (show (0 : Int) < 2147483629 by decide)
    generalize (x * x) % 2147483629 = w at c1 c2 ⊢
    rw [st_asg (by simp only [ev_v, ev_k, ev_g, ev_tup, ev_lst, ev_bin, ev_neg, ev_nt, ev_cmp, ev_chn, ev_an, ev_orr, ev_ife, ev_ix, ev_sl, ev_rev, ev_call, ev_bi, ev_isi, ev_isx, ev_app, ev_ins, ev_frz, ev_fld, evs_nil, evs_cons, evo_no, evo_so, G.R.bind_ok, rOr_some, vr_s, dInt_i, dBool_b, b_add, b_sub, b_pow18, b_pow9, c_lt, c_le, c_gt, c_ge, c_is, c_isn, List.getElem?_cons_succ, List.getElem?_cons_zero, List.set_cons_succ, List.set_cons_zero, brR_t, brR_f, b_mul false (small_mul c1 (show w < 18446744073709551616 by omega)), b_mod false (show (0 : Int) < 2147483587 by decide)] <;> rfl) rfl]
    rw [st_ifF (by simp only [ev_v, ev_k, ev_g, ev_tup, ev_lst, ev_bin, ev_neg, ev_nt, ev_cmp, ev_chn, ev_an, ev_orr, ev_ife, ev_ix, ev_sl, ev_rev, ev_call, ev_bi, ev_isi, ev_isx, ev_app, ev_ins, ev_frz, ev_fld, evs_nil, evs_cons, evo_no, evo_so, G.R.bind_ok, rOr_some, vr_s, dInt_i, dBool_b, b_add, b_sub, b_pow18, b_pow9, c_lt, c_le, c_gt, c_ge, c_is, c_isn, List.getElem?_cons_succ, List.getElem?_cons_zero, List.set_cons_succ, List.set_cons_zero, brR_t, brR_f, decide_eq_false (show ¬ (1000000000 : Int) < m by omega)] <;> rfl), st_nil, RS.nxt_nx]
    rw [st_ret (by simp only [ev_v, ev_k, ev_g, ev_tup, ev_lst, ev_bin, ev_neg, ev_nt, ev_cmp, ev_chn, ev_an, ev_orr, ev_ife, ev_ix, ev_sl, ev_rev, ev_call, ev_bi, ev_isi, ev_isx, ev_app, ev_ins, ev_frz, ev_fld, evs_nil, evs_cons, evo_no, evo_so, G.R.bind_ok, rOr_some, vr_s, dInt_i, dBool_b, b_add, b_sub, b_pow18, b_pow9, c_lt, c_le, c_gt, c_ge, c_is, c_isn, List.getElem?_cons_succ, List.getElem?_cons_zero, List.set_cons_succ, List.set_cons_zero, brR_t, brR_f, b_mod false hm] <;> rfl)]
    refine ⟨_, _, rfl, Int.emod_nonneg _ (by omega), Int.emod_lt_of_pos _ hm, ⟨h.ne, l, t + 1, hp2, hc2, l0, lz, by omega, by omega⟩, ?_, fun n n1 n2 => ?_⟩
    · rw [List.length_set]
    · exact List.getElem?_set_ne (Ne.symm n1)
/-- a drawing def -/
def DrawF (Φ : List D → Sto → R D) : Prop := ∀ {s : Sto} {p c k : Nat} {m : Int}, Pu s p c (k + 1) → 0 < m → m ≤ 1000000000 → ∃ (r : Int) (s' : Sto), Φ [.o p, .p (.int m)] s = .ok (.p (.int r)) s' ∧ 0 ≤ r ∧ r < m ∧ Pu s' p c k ∧ Kp p c s s'
theorem finO_p {F : FnI} {d : PyData} {s s' s2 : Sto} (hp : F.pure = true) (h : cut s s' = some s2) : finO F (.p d) s s' = .ok (.p d) s2 := by
  unfold finO
  rw [if_pos hp]
  have : frz 8 (.p d) s' = some (d, s') := rfl
  rw [this]
  simp only [rOr_some, h]
theorem draw_run (P : Pg) : DrawF (fun args s => runB P ⟨2, 8, bDraw, true⟩ args s) := by
  intro s p c k m h hm hM
  obtain ⟨r, s', e, h1, h2, h3, h4⟩ := draw_ev P h hm hM
  refine ⟨r, s', ?_, h1, h2, h3, h4⟩
  show runB P ⟨2, 8, bDraw, true⟩ [.o p, .p (.int m)] s = _
  unfold runB
  have e' : exs P bDraw (([.o p, .p (.int m)] : List D).map some ++ List.replicate (8 - ([.o p, .p (.int m)] : List D).length) none) s = .rt (.p (.int r)) s' := e
  rw [e']
  exact finO_p rfl (cut_kp h3 h4)
end
end G

namespace G
open PySem PySem.Spec PyProof.Rows L2
open Classical
noncomputable section
/-! ### loops, cells that are new -/
theorem forL_inv {f : Item → Env → Sto → RS} {items : List Item} (I : Nat → Env → Sto → Prop) (hs : ∀ i x e s, items[i]? = some x → I i e s → ∃ e' s', f x e s = .nx e' s' ∧ I (i + 1) e' s') {e : Env} {s : Sto} (h0 : I 0 e s) : ∃ e' s', forL f items e s = .nx e' s' ∧ I items.length e' s' := by
  have gen : ∀ (n i : Nat) (e : Env) (s : Sto), items.length - i = n → i ≤ items.length → I i e s → ∃ e' s', forL f (items.drop i) e s = .nx e' s' ∧ I items.length e' s' := by
    intro n
    induction n with
    | zero =>
      intro i e s hn hi h
      have : i = items.length := by omega
      subst this
      rw [List.drop_length]
      exact ⟨e, s, rfl, h⟩
    | succ n ih =>
      intro i e s hn hi h
      have hlt : i < items.length := by omega
      rw [List.drop_eq_getElem_cons hlt]
      obtain ⟨e', s', h1, h2⟩ := hs i items[i] e s (List.getElem?_eq_getElem hlt) h
      simp only [forL, h1]
      exact ih (i + 1) e' s' (by omega) hlt h2
  have := gen items.length 0 e s rfl (Nat.zero_le _) h0
  rwa [List.drop_zero] at this
theorem st_for {P : Pg} {e e1 : Env} {s s1 s2 : Sto} {tg : Tg} {it : It} {b r : Ss} {items : List Item} (h : evi P it e s = .ok items s1) (hl : forL (fun x e1 s2 => bindS tg x s2 e1 fun e2 => exs P b e2 s2) items e s1 = .nx e1 s2) : exs P (.cons (.for_ tg it b) r) e s = exs P r e1 s2 := by
  simp only [exs, exe, h, toS_ok, hl, RS.nxt_nx]
/-- the first of s stand on in s', but for the purse's -/
def Ks (p c : Nat) (s s' : Sto) : Prop := s.length ≤ s'.length ∧ ∀ n, n < s.length → n ≠ p → n ≠ c → s'[n]? = s[n]?
theorem Kp.ks {p c : Nat} {s s' : Sto} (h : Kp p c s s') : Ks p c s s' := ⟨Nat.le_of_eq h.1.symm, fun n _ => h.2 n⟩
theorem Ks.refl {p c : Nat} (s : Sto) : Ks p c s s := ⟨Nat.le_refl _, fun _ _ _ _ => rfl⟩
theorem Ks.trans {p c : Nat} {s1 s2 s3 : Sto} (a : Ks p c s1 s2) (b : Ks p c s2 s3) : Ks p c s1 s3 := ⟨Nat.le_trans a.1 b.1, fun n h h1 h2 => (b.2 n (Nat.lt_of_lt_of_le h a.1) h1 h2).trans (a.2 n h h1 h2)⟩
theorem Ks.app {p c : Nat} (s : Sto) (x : Option Cell) : Ks p c s (s ++ [x]) := ⟨by simp, fun n h _ _ => List.getElem?_append_left h⟩
theorem Ks.set {p c n : Nat} {s s' : Sto} (h : Ks p c s s') (hn : s.length ≤ n) (x : Option Cell) : Ks p c s (s'.set n x) := ⟨by rw [List.length_set]; exact h.1, fun m hm h1 h2 => by rw [List.getElem?_set_ne (by omega)]; exact h.2 m hm h1 h2⟩
theorem Pu.app {s : Sto} {p c k : Nat} (h : Pu s p c k) (x : Option Cell) : Pu (s ++ [x]) p c k := by
  obtain ⟨l1, l2⟩ := h.lt
  obtain ⟨l, t, h1, h2, h3⟩ := h.ex
  exact ⟨h.ne, l, t, by rw [List.getElem?_append_left l1]; exact h1, by rw [List.getElem?_append_left l2]; exact h2, h3⟩
theorem Pu.set {s : Sto} {p c k n : Nat} (h : Pu s p c k) (h1 : n ≠ p) (h2 : n ≠ c) (x : Option Cell) : Pu (s.set n x) p c k := by
  obtain ⟨l, t, k1, k2, k3⟩ := h.ex
  exact ⟨h.ne, l, t, by rw [List.getElem?_set_ne h1]; exact k1, by rw [List.getElem?_set_ne h2]; exact k2, k3⟩
theorem cut_ks {s s' : Sto} {p c k : Nat} (hp : p < s.length) (hc : c < s.length) (h : Pu s' p c k) (x : Ks p c s s') : ∃ s2, cut s s' = some s2 ∧ Pu s2 p c k ∧ Kp p c s s2 := by
  obtain ⟨l, t, h1, h2, h3⟩ := h.ex
  refine ⟨s'.take s.length, ?_, ⟨h.ne, l, t, by rw [List.getElem?_take_of_lt hp]; exact h1, by rw [List.getElem?_take_of_lt hc]; exact h2, h3⟩, by rw [List.length_take]; have := x.1; omega, fun n n1 n2 => ?_⟩
  · unfold cut
    rw [if_pos]
    intro n hn
    by_cases e1 : n = p
    · refine .inr fun y hy => ?_
      rw [e1, h1] at hy
      cases hy
      intro z hz
      rcases List.mem_cons.mp hz with rfl | hz
      · exact hc
      · rcases List.mem_cons.mp hz with rfl | hz
        · trivial
        · cases hz
    · by_cases e2 : n = c
      · refine .inr fun y hy => ?_
        rw [e2, h2] at hy
        cases hy
        intro z hz
        unfold iD at hz
        obtain ⟨i, _, rfl⟩ := List.mem_map.mp hz
        trivial
      · exact .inl (x.2 n hn e1 e2)
  · by_cases hn : n < s.length
    · rw [List.getElem?_take_of_lt hn]
      exact x.2 n hn n1 n2
    · rw [List.getElem?_eq_none (by rw [List.length_take]; omega), List.getElem?_eq_none (by omega)]
/-! ### pick -/
def bPick (d : Nat) : Ss := (.cons (.ret (.ix (.v 1) (.call d (.cons (.v 0) (.cons (.bi .len false (.v 1)) .nil))))) .nil)
def PickF (Φ : List D → Sto → R D) : Prop := ∀ {s : Sto} {p c k : Nat} {ds : List PyData}, Pu s p c (k + 1) → ds ≠ [] → ds.length ≤ 1000000 → ∃ (x : PyData) (s' : Sto), Φ [.o p, .p (.list ds)] s = .ok (.p x) s' ∧ x ∈ ds ∧ Pu s' p c k ∧ Kp p c s s'
theorem pD_get {ds : List PyData} {i : Nat} {d : PyData} (h : ds[i]? = some d) : (ds.map D.p)[i]? = some (.p d) := by rw [List.getElem?_map, h]; rfl
theorem pick_run (P : Pg) {d : Nat} (hd : DrawF (P.Φ d)) : PickF (fun args s => runB P ⟨2, 2, bPick d, true⟩ args s) := by
  intro s p c k ds h h0 hl
  have lp : 0 < ds.length := by cases ds with
    | nil => exact absurd rfl h0
    | cons _ _ => simp
  obtain ⟨r, s', e, h1, h2, h3, h4⟩ := hd (m := ((ds.map D.p).length : Int)) h (by rw [List.length_map]; omega) (by rw [List.length_map]; omega)
  rw [List.length_map] at h2
  obtain ⟨j, rfl⟩ := Int.eq_ofNat_of_zero_le h1
  have hj : j < ds.length := by omega
  refine ⟨ds[j], s', ?_, List.getElem_mem hj, h3, h4⟩
  show runB P ⟨2, 2, bPick d, true⟩ [.o p, .p (.list ds)] s = _
  unfold runB
  have e' : exs P (bPick d) (([.o p, .p (.list ds)] : List D).map some ++ List.replicate (2 - ([.o p, .p (.list ds)] : List D).length) none) s = .rt (.p ds[j]) s' := by
    show exs P (bPick d) [some (.o p), some (.p (.list ds))] s = _
    unfold bPick
    rw [st_ret (by simp only [ev_v, ev_k, ev_g, ev_tup, ev_lst, ev_bin, ev_neg, ev_nt, ev_cmp, ev_chn, ev_an, ev_orr, ev_ife, ev_ix, ev_sl, ev_rev, ev_call, ev_bi, ev_isi, ev_isx, ev_app, ev_ins, ev_frz, ev_fld, evs_nil, evs_cons, evo_no, evo_so, G.R.bind_ok, rOr_some, vr_s, dInt_i, dBool_b, b_add, b_sub, b_pow18, b_pow9, c_lt, c_le, c_gt, c_ge, c_is, c_isn, List.getElem?_cons_succ, List.getElem?_cons_zero, List.set_cons_succ, List.set_cons_zero, brR_t, brR_f, l_len false (asSq_l ds), e, i_ix (asSq_l ds) (atI_nat (pD_get (List.getElem?_eq_getElem hj)))] <;> rfl)]
  show (match exs P (bPick d) _ s with
    | .nx _ s' => finO _ (.p .none) s s'
    | .rt d s' => finO _ d s s'
    | .exc x _ s' => finX x s s'
    | _ => .bad) = _
  rw [e']
  exact finO_p rfl (cut_kp h3 h4)
/-! ### mixed -/
def bMix (d : Nat) : Ss := (.cons (.asg (.nm 2) (.lst true .nil)) (.cons (.for_ (.nm 3) (.seq (.v 1)) (.cons (.ex (.ins (.v 2) (.call d (.cons (.v 0) (.cons (.bin .add false (.bi .len false (.v 2)) (.k (.int 1))) .nil))) (.v 3))) .nil)) (.cons (.ret (.v 2)) .nil)))
def MixF (Φ : List D → Sto → R D) : Prop := ∀ {s : Sto} {p c k : Nat} {ds : List PyData}, Pu s p c (k + ds.length) → ds.length ≤ 1000 → ∃ (ys : List PyData) (s' : Sto), Φ [.o p, .p (.list ds)] s = .ok (.p (.list ys)) s' ∧ ys.Perm ds ∧ Pu s' p c k ∧ Kp p c s s'
theorem frzL_p : ∀ (k : Nat) (ds : List PyData) (s : Sto), frzL (frz k) (ds.map D.p) s = some (ds, s)
  | k, [], s => rfl
  | k, d :: ds, s => by
    have e : frz k (.p d) s = some (d, s) := by cases k <;> rfl
    simp only [List.map_cons, frzL, e, frzL_p k ds s]
theorem frz_l {k n : Nat} {s : Sto} {ds : List PyData} (h : s[n]? = some (some (.lst (ds.map D.p)))) : frz (k + 1) (.o n) s = some (.list ds, s.set n none) := by
  unfold frz
  rw [cel_of h]
  simp only [frzL_p]
theorem mkL_c (xs : List D) (s : Sto) (h : xs.length ≤ LIM) : mkL true xs s = .ok (.o s.length) (s ++ [some (.lst xs)]) := by
  unfold mkL
  rw [if_pos h]
theorem i_ins {s : Sto} {n j : Nat} {y : D} {xs : List D} (h : s[n]? = some (some (.lst xs))) (h1 : xs.length < LIM) (hj : j ≤ LIM) : insop (.o n) (.p (.int (j : Int))) y s = .ok (.p .none) (s.set n (some (.lst (xs.take j ++ [y] ++ xs.drop j)))) := by
  unfold insop
  rw [dInt_i]
  dsimp only
  rw [cel_of h]
  dsimp only
  rw [if_pos ⟨h1, by omega, by omega⟩]
  rfl
theorem mix_run (P : Pg) {d : Nat} (hd : DrawF (P.Φ d)) : MixF (fun args s => runB P ⟨2, 4, bMix d, true⟩ args s) := by
  intro s p c k ds h hl
  obtain ⟨l1, l2⟩ := h.lt
  have main : ∃ (ys : List PyData) (s2 : Sto), exs P (bMix d) [some (.o p), some (.p (.list ds)), none, none] s = .rt (.o s.length) s2 ∧ s2[s.length]? = some (some (.lst (ys.map D.p))) ∧ ys.Perm ds ∧ Pu s2 p c k ∧ Ks p c s s2 := by
    unfold bMix
    rw [st_asg (by simp only [ev_v, ev_k, ev_g, ev_tup, ev_lst, ev_bin, ev_neg, ev_nt, ev_cmp, ev_chn, ev_an, ev_orr, ev_ife, ev_ix, ev_sl, ev_rev, ev_call, ev_bi, ev_isi, ev_isx, ev_app, ev_ins, ev_frz, ev_fld, evs_nil, evs_cons, evo_no, evo_so, G.R.bind_ok, rOr_some, vr_s, dInt_i, dBool_b, b_add, b_sub, b_pow18, b_pow9, c_lt, c_le, c_gt, c_ge, c_is, c_isn, List.getElem?_cons_succ, List.getElem?_cons_zero, List.set_cons_succ, List.set_cons_zero, brR_t, brR_f, mkL_c [] s (by decide)] <;> rfl) rfl]
    simp only [List.set_cons_succ, List.set_cons_zero]
    have step : ∀ (i : Nat) (x : Item) (e : Env) (s2 : Sto), (ds.map fun d => Item.one (.p d))[i]? = some x → (fun i e s2 => (∃ z, e = [some (.o p), some (.p (.list ds)), some (.o s.length), z]) ∧ ∃ ys : List PyData, s2[s.length]? = some (some (.lst (ys.map D.p))) ∧ ys.Perm (ds.take i) ∧ Pu s2 p c (k + (ds.length - i)) ∧ Ks p c s s2) i e s2 → ∃ e' s', (fun x e1 s2 => bindS (.nm 3) x s2 e1 fun e2 => exs P (.cons (.ex (.ins (.v 2) (.call d (.cons (.v 0) (.cons (.bin .add false (.bi .len false (.v 2)) (.k (.int 1))) .nil))) (.v 3))) .nil) e2 s2) x e s2 = .nx e' s' ∧ (fun i e s2 => (∃ z, e = [some (.o p), some (.p (.list ds)), some (.o s.length), z]) ∧ ∃ ys : List PyData, s2[s.length]? = some (some (.lst (ys.map D.p))) ∧ ys.Perm (ds.take i) ∧ Pu s2 p c (k + (ds.length - i)) ∧ Ks p c s s2) (i + 1) e' s' := by
      rintro i x e s2 hx ⟨⟨z, rfl⟩, ys, k1, k2, k3, k4⟩
      rw [List.getElem?_map] at hx
      cases q : ds[i]? with
      | none => rw [q] at hx; cases hx
      | some y =>
        rw [q] at hx
        cases hx
        have hi := (List.getElem?_eq_some_iff.mp q).1
        have yl : ys.length ≤ 1000 := by
          have := k2.length_eq
          rw [List.length_take] at this
          omega
        have k3' : Pu s2 p c ((k + (ds.length - (i + 1))) + 1) := by
          have e : (k + (ds.length - (i + 1))) + 1 = k + (ds.length - i) := by omega
          rw [e]
          exact k3
        obtain ⟨r, s3, e3, h1, h2, h3, h4⟩ := hd (m := ((ys.map D.p).length : Int) + 1) k3' (by omega) (by rw [List.length_map]; omega)
        rw [List.length_map] at h2
        obtain ⟨j, rfl⟩ := Int.eq_ofNat_of_zero_le h1
        have hj : j ≤ ys.length := by omega
        have c3 : s3[s.length]? = some (some (.lst (ys.map D.p))) := by rw [h4.2 _ (by omega) (by omega)]; exact k1
        have lim : LIM = 1000000 := rfl
        refine ⟨[some (.o p), some (.p (.list ds)), some (.o s.length), some (.p y)], s3.set s.length (some (.lst ((ys.map D.p).take j ++ [.p y] ++ (ys.map D.p).drop j))), ?_, ⟨_, rfl⟩, ys.take j ++ [y] ++ ys.drop j, ?_, ?_, ?_, ?_⟩
        · show exs P _ [some (.o p), some (.p (.list ds)), some (.o s.length), some (.p y)] s2 = _
          rw [st_ex (by simp only [ev_v, ev_k, ev_g, ev_tup, ev_lst, ev_bin, ev_neg, ev_nt, ev_cmp, ev_chn, ev_an, ev_orr, ev_ife, ev_ix, ev_sl, ev_rev, ev_call, ev_bi, ev_isi, ev_isx, ev_app, ev_ins, ev_frz, ev_fld, evs_nil, evs_cons, evo_no, evo_so, G.R.bind_ok, rOr_some, vr_s, dInt_i, dBool_b, b_add, b_sub, b_pow18, b_pow9, c_lt, c_le, c_gt, c_ge, c_is, c_isn, List.getElem?_cons_succ, List.getElem?_cons_zero, List.set_cons_succ, List.set_cons_zero, brR_t, brR_f, asL_o k1, l_len false (asSq_o k1), e3, i_ins c3 (show (ys.map D.p).length < LIM by rw [List.length_map]; omega) (show j ≤ LIM by omega)] <;> rfl), st_nil]
        · rw [List.getElem?_set_self (by have := (List.getElem?_eq_some_iff.mp c3).1; exact this), List.map_append, List.map_append, List.map_take, List.map_drop]
          rfl
        · rw [List.take_add_one, q]
          refine List.Perm.trans ?_ (List.Perm.append k2 (List.Perm.refl [y]))
          have e1 : ys ++ [y] = ys.take j ++ (ys.drop j ++ [y]) := by rw [← List.append_assoc, List.take_append_drop]
          show (ys.take j ++ [y] ++ ys.drop j).Perm (ys ++ [y])
          rw [e1, List.append_assoc]
          exact List.Perm.append_left _ List.perm_append_comm
        · exact h3.set (by omega) (by omega) _
        · exact (k4.trans h4.ks).set (Nat.le_refl _) _
    obtain ⟨e', s', hf, hI⟩ := forL_inv (f := (fun x e1 s2 => bindS (.nm 3) x s2 e1 fun e2 => exs P (.cons (.ex (.ins (.v 2) (.call d (.cons (.v 0) (.cons (.bin .add false (.bi .len false (.v 2)) (.k (.int 1))) .nil))) (.v 3))) .nil) e2 s2)) (items := ds.map fun d => .one (.p d)) (fun i e s2 => (∃ z, e = [some (.o p), some (.p (.list ds)), some (.o s.length), z]) ∧ ∃ ys : List PyData, s2[s.length]? = some (some (.lst (ys.map D.p))) ∧ ys.Perm (ds.take i) ∧ Pu s2 p c (k + (ds.length - i)) ∧ Ks p c s s2) step (e := [some (.o p), some (.p (.list ds)), some (.o s.length), none]) (s := s ++ [some (.lst [])]) ⟨⟨_, rfl⟩, [], by simp, by simp, (h.app _), Ks.app _ _⟩
    obtain ⟨⟨z, rfl⟩, ys, k1, k2, k3, k4⟩ := hI
    rw [List.length_map] at k2 k3
    rw [st_for (items := ds.map fun d => .one (.p d)) (by simp only [evi]; simp only [ev_v, ev_k, ev_g, ev_tup, ev_lst, ev_bin, ev_neg, ev_nt, ev_cmp, ev_chn, ev_an, ev_orr, ev_ife, ev_ix, ev_sl, ev_rev, ev_call, ev_bi, ev_isi, ev_isx, ev_app, ev_ins, ev_frz, ev_fld, evs_nil, evs_cons, evo_no, evo_so, G.R.bind_ok, rOr_some, vr_s, dInt_i, dBool_b, b_add, b_sub, b_pow18, b_pow9, c_lt, c_le, c_gt, c_ge, c_is, c_isn, List.getElem?_cons_succ, List.getElem?_cons_zero, List.set_cons_succ, List.set_cons_zero, brR_t, brR_f] <;> rfl) hf]
    rw [st_ret (by simp only [ev_v, ev_k, ev_g, ev_tup, ev_lst, ev_bin, ev_neg, ev_nt, ev_cmp, ev_chn, ev_an, ev_orr, ev_ife, ev_ix, ev_sl, ev_rev, ev_call, ev_bi, ev_isi, ev_isx, ev_app, ev_ins, ev_frz, ev_fld, evs_nil, evs_cons, evo_no, evo_so, G.R.bind_ok, rOr_some, vr_s, dInt_i, dBool_b, b_add, b_sub, b_pow18, b_pow9, c_lt, c_le, c_gt, c_ge, c_is, c_isn, List.getElem?_cons_succ, List.getElem?_cons_zero, List.set_cons_succ, List.set_cons_zero, brR_t, brR_f] <;> rfl)]
    refine ⟨ys, s', rfl, k1, by rwa [List.take_length] at k2, by rwa [Nat.sub_self] at k3, k4⟩
  obtain ⟨ys, s2, e2, c2, pe, pu, ks⟩ := main
  have pu2 : Pu (s2.set s.length none) p c k := pu.set (by omega) (by omega) _
  obtain ⟨s3, ec, pu3, kp⟩ := cut_ks l1 l2 pu2 (ks.set (Nat.le_refl _) none)
  refine ⟨ys, s3, ?_, pe, pu3, kp⟩
  show runB P ⟨2, 4, bMix d, true⟩ [.o p, .p (.list ds)] s = _
  unfold runB
  have e' : exs P (bMix d) (([.o p, .p (.list ds)] : List D).map some ++ List.replicate (4 - ([.o p, .p (.list ds)] : List D).length) none) s = .rt (.o s.length) s2 := e2
  show (match exs P (bMix d) _ s with
    | .nx _ s' => finO _ (.p .none) s s'
    | .rt d s' => finO _ d s s'
    | .exc x _ s' => finX x s s'
    | _ => .bad) = _
  rw [e']
  show finO _ (.o s.length) s s2 = _
  unfold finO
  rw [if_pos rfl, frz_l c2]
  simp only [rOr_some, ec]
end
end G

namespace G
open PySem PySem.Spec PyProof.Rows L2
open Classical
noncomputable section
/-! ### displays -/
theorem mkL_0 {s : Sto} : mkL false [] s = .ok (.p (.list [])) s := if_pos (show 0 ≤ 1000000 by decide)
theorem mkT_0 {s : Sto} : mkT [] s = .ok (.p (.tuple [])) s := if_pos (show 0 ≤ 1000000 by decide)
theorem mkL_1 {s : Sto} (a0 : PyData) : mkL false [.p a0] s = .ok (.p (.list [a0])) s := if_pos (show 1 ≤ 1000000 by decide)
theorem mkT_1 {s : Sto} (a0 : PyData) : mkT [.p a0] s = .ok (.p (.tuple [a0])) s := if_pos (show 1 ≤ 1000000 by decide)
theorem mkL_2 {s : Sto} (a0 a1 : PyData) : mkL false [.p a0, .p a1] s = .ok (.p (.list [a0, a1])) s := if_pos (show 2 ≤ 1000000 by decide)
theorem mkT_2 {s : Sto} (a0 a1 : PyData) : mkT [.p a0, .p a1] s = .ok (.p (.tuple [a0, a1])) s := if_pos (show 2 ≤ 1000000 by decide)
theorem mkL_3 {s : Sto} (a0 a1 a2 : PyData) : mkL false [.p a0, .p a1, .p a2] s = .ok (.p (.list [a0, a1, a2])) s := if_pos (show 3 ≤ 1000000 by decide)
theorem mkT_3 {s : Sto} (a0 a1 a2 : PyData) : mkT [.p a0, .p a1, .p a2] s = .ok (.p (.tuple [a0, a1, a2])) s := if_pos (show 3 ≤ 1000000 by decide)
theorem mkL_4 {s : Sto} (a0 a1 a2 a3 : PyData) : mkL false [.p a0, .p a1, .p a2, .p a3] s = .ok (.p (.list [a0, a1, a2, a3])) s := if_pos (show 4 ≤ 1000000 by decide)
theorem mkT_4 {s : Sto} (a0 a1 a2 a3 : PyData) : mkT [.p a0, .p a1, .p a2, .p a3] s = .ok (.p (.tuple [a0, a1, a2, a3])) s := if_pos (show 4 ≤ 1000000 by decide)
theorem mkL_5 {s : Sto} (a0 a1 a2 a3 a4 : PyData) : mkL false [.p a0, .p a1, .p a2, .p a3, .p a4] s = .ok (.p (.list [a0, a1, a2, a3, a4])) s := if_pos (show 5 ≤ 1000000 by decide)
theorem mkT_5 {s : Sto} (a0 a1 a2 a3 a4 : PyData) : mkT [.p a0, .p a1, .p a2, .p a3, .p a4] s = .ok (.p (.tuple [a0, a1, a2, a3, a4])) s := if_pos (show 5 ≤ 1000000 by decide)
theorem mkL_6 {s : Sto} (a0 a1 a2 a3 a4 a5 : PyData) : mkL false [.p a0, .p a1, .p a2, .p a3, .p a4, .p a5] s = .ok (.p (.list [a0, a1, a2, a3, a4, a5])) s := if_pos (show 6 ≤ 1000000 by decide)
theorem mkT_6 {s : Sto} (a0 a1 a2 a3 a4 a5 : PyData) : mkT [.p a0, .p a1, .p a2, .p a3, .p a4, .p a5] s = .ok (.p (.tuple [a0, a1, a2, a3, a4, a5])) s := if_pos (show 6 ≤ 1000000 by decide)
theorem mkL_7 {s : Sto} (a0 a1 a2 a3 a4 a5 a6 : PyData) : mkL false [.p a0, .p a1, .p a2, .p a3, .p a4, .p a5, .p a6] s = .ok (.p (.list [a0, a1, a2, a3, a4, a5, a6])) s := if_pos (show 7 ≤ 1000000 by decide)
theorem mkL_8 {s : Sto} (a0 a1 a2 a3 a4 a5 a6 a7 : PyData) : mkL false [.p a0, .p a1, .p a2, .p a3, .p a4, .p a5, .p a6, .p a7] s = .ok (.p (.list [a0, a1, a2, a3, a4, a5, a6, a7])) s := if_pos (show 8 ≤ 1000000 by decide)
theorem mkL_9 {s : Sto} (a0 a1 a2 a3 a4 a5 a6 a7 a8 : PyData) : mkL false [.p a0, .p a1, .p a2, .p a3, .p a4, .p a5, .p a6, .p a7, .p a8] s = .ok (.p (.list [a0, a1, a2, a3, a4, a5, a6, a7, a8])) s := if_pos (show 9 ≤ 1000000 by decide)
theorem mkL_10 {s : Sto} (a0 a1 a2 a3 a4 a5 a6 a7 a8 a9 : PyData) : mkL false [.p a0, .p a1, .p a2, .p a3, .p a4, .p a5, .p a6, .p a7, .p a8, .p a9] s = .ok (.p (.list [a0, a1, a2, a3, a4, a5, a6, a7, a8, a9])) s := if_pos (show 10 ≤ 1000000 by decide)
theorem mkL_11 {s : Sto} (a0 a1 a2 a3 a4 a5 a6 a7 a8 a9 a10 : PyData) : mkL false [.p a0, .p a1, .p a2, .p a3, .p a4, .p a5, .p a6, .p a7, .p a8, .p a9, .p a10] s = .ok (.p (.list [a0, a1, a2, a3, a4, a5, a6, a7, a8, a9, a10])) s := if_pos (show 11 ≤ 1000000 by decide)
theorem mkL_12 {s : Sto} (a0 a1 a2 a3 a4 a5 a6 a7 a8 a9 a10 a11 : PyData) : mkL false [.p a0, .p a1, .p a2, .p a3, .p a4, .p a5, .p a6, .p a7, .p a8, .p a9, .p a10, .p a11] s = .ok (.p (.list [a0, a1, a2, a3, a4, a5, a6, a7, a8, a9, a10, a11])) s := if_pos (show 12 ≤ 1000000 by decide)
theorem i_app {s : Sto} {n : Nat} {y : D} {xs : List D} (h : s[n]? = some (some (.lst xs))) (h1 : xs.length < LIM) : appop (.o n) y s = .ok (.p .none) (s.set n (some (.lst (xs ++ [y])))) := by
  unfold appop
  dsimp only
  rw [cel_of h]
  dsimp only
  rw [if_pos h1]
theorem r_rng {P : Pg} {e : Env} {s s1 : Sto} {a : E} {i : Int} (h : ev P a e s = .ok (.p (.int i)) s1) (h1 : i ≤ 1000000) (h2 : -1000000 ≤ i) : evi P (.rng a) e s = .ok ((List.range i.toNat).map fun (k : Nat) => Item.one (.p (.int (k : Int)))) s1 := by
  simp only [evi, h, R.bind_ok, dInt_i, rOr_some]
  exact if_pos ⟨h1, h2⟩
theorem rng_get {n i : Nat} {x : Item} (h : ((List.range n).map fun (k : Nat) => Item.one (.p (.int (k : Int))))[i]? = some x) : i < n ∧ x = .one (.p (.int (i : Int))) := by
  rw [List.getElem?_map] at h
  by_cases q : i < n
  · rw [List.getElem?_range q] at h
    cases h
    exact ⟨q, rfl⟩
  · rw [List.getElem?_eq_none (by rw [List.length_range]; omega)] at h
    cases h
/-! ### towns -/
def prP (x : Int × Int) : PyData := .tuple [.int x.1, .int x.2]
def townP (many : Int) (ls : List (Int × Int)) : PyData := .tuple [.int many, .list (ls.map prP)]
/-- a right town of at most b places -/
structure Tw (b : Int) (many : Int) (ls : List (Int × Int)) : Prop where
  m1 : 1 ≤ many
  m2 : many ≤ b
  l1 : 1 ≤ ls.length
  l2 : (ls.length : Int) ≤ 2 * b
  rd : ∀ x ∈ ls, 0 ≤ x.1 ∧ x.1 < many ∧ 0 ≤ x.2 ∧ x.2 < many
  pl : ∀ v : Int, 0 ≤ v → v < many → ∃ x ∈ ls, x.1 = v ∨ x.2 = v
def bTown (d m : Nat) : Ss := (.cons (.asg (.nm 2) (.bin .add false (.k (.int 1)) (.call d (.cons (.v 0) (.cons (.v 1) .nil))))) (.cons (.asg (.nm 3) (.lst true .nil)) (.cons (.for_ (.nm 4) (.rng (.v 2)) (.cons (.asg (.nm 6) (.call d (.cons (.v 0) (.cons (.bin .add false (.v 4) (.k (.int 1))) .nil)))) (.cons (.ex (.app (.v 3) (.ix (.lst false (.cons (.tup (.cons (.v 6) (.cons (.v 4) .nil))) (.cons (.tup (.cons (.v 4) (.cons (.v 6) .nil))) (.cons (.tup (.cons (.v 4) (.cons (.v 4) .nil))) (.cons (.tup (.cons (.v 6) (.cons (.v 4) .nil))) .nil))))) (.call d (.cons (.v 0) (.cons (.k (.int 4)) .nil)))))) .nil))) (.cons (.for_ (.nm 5) (.rng (.call d (.cons (.v 0) (.cons (.bin .add false (.v 1) (.k (.int 1))) .nil)))) (.cons (.asg (.nm 7) (.tup (.cons (.call d (.cons (.v 0) (.cons (.v 2) .nil))) (.cons (.call d (.cons (.v 0) (.cons (.v 2) .nil))) .nil)))) (.cons (.ex (.app (.v 3) (.ix (.lst false (.cons (.v 7) (.cons (.v 7) (.cons (.ix (.v 3) (.call d (.cons (.v 0) (.cons (.bi .len false (.v 3)) .nil)))) (.cons (.tup (.cons (.ix (.v 7) (.k (.int 0))) (.cons (.ix (.v 7) (.k (.int 0))) .nil))) .nil))))) (.call d (.cons (.v 0) (.cons (.k (.int 4)) .nil)))))) .nil))) (.cons (.ret (.tup (.cons (.v 2) (.cons (.call m (.cons (.v 0) (.cons (.frz (.v 3)) .nil))) .nil)))) .nil)))))
def TownF (Φ : List D → Sto → R D) : Prop := ∀ {s : Sto} {p c k : Nat} {b : Int}, Pu s p c (k + 1000) → 1 ≤ b → b ≤ 20 → ∃ (many : Int) (ls : List (Int × Int)) (s' : Sto), Φ [.o p, .p (.int b)] s = .ok (.p (townP many ls)) s' ∧ Tw b many ls ∧ Pu s' p c k ∧ Kp p c s s'
/-- the cell of lines -/
def lnD (ls : List (Int × Int)) : List D := (ls.map prP).map D.p
theorem lnD_len (ls : List (Int × Int)) : (lnD ls).length = ls.length := by unfold lnD; rw [List.length_map, List.length_map]
theorem lnD_app (ls : List (Int × Int)) (x : Int × Int) : lnD ls ++ [.p (prP x)] = lnD (ls ++ [x]) := by unfold lnD; simp
theorem lnD_get {ls : List (Int × Int)} {i : Nat} (h : i < ls.length) : (lnD ls)[i]? = some (.p (prP ls[i])) := by
  unfold lnD
  rw [List.getElem?_map, List.getElem?_map, List.getElem?_eq_getElem h]
  rfl
theorem perm_map_ {α β : Type} {f : α → β} : ∀ {ys zs : List β}, ys.Perm zs → ∀ ls : List α, zs = ls.map f → ∃ l : List α, ys = l.map f ∧ l.Perm ls := by
  intro ys zs h
  induction h with
  | nil => exact fun ls e => ⟨ls, e, List.Perm.refl _⟩
  | cons x _ ih =>
    intro ls e
    cases ls with
    | nil => cases e
    | cons a ls =>
      rw [List.map_cons] at e
      obtain ⟨rfl, e2⟩ := List.cons.inj e
      obtain ⟨l, h1, h2⟩ := ih ls e2
      exact ⟨a :: l, by rw [h1]; rfl, h2.cons a⟩
  | swap x y l =>
    intro ls e
    match ls, e with
    | a :: b :: ls, e =>
      simp only [List.map_cons, List.cons.injEq] at e
      obtain ⟨rfl, rfl, rfl⟩ := e
      exact ⟨b :: a :: ls, rfl, List.Perm.swap _ _ _⟩
    | [], e => cases e
    | [a], e => simp at e
  | trans _ _ ih1 ih2 =>
    intro ls e
    obtain ⟨l2, h1, h2⟩ := ih2 ls e
    obtain ⟨l1, h3, h4⟩ := ih1 l2 h1
    exact ⟨l1, h3, h4.trans h2⟩
theorem perm_map {α β : Type} {f : α → β} {ys : List β} {ls : List α} (h : ys.Perm (ls.map f)) : ∃ l : List α, ys = l.map f ∧ l.Perm ls := perm_map_ h ls rfl
theorem town_run (P : Pg) {d m : Nat} (hd : DrawF (P.Φ d)) (hm : MixF (P.Φ m)) : TownF (fun args s => runB P ⟨2, 8, bTown d m, true⟩ args s) := by
  intro s p c k b h hb1 hb2
  obtain ⟨l1, l2⟩ := h.lt
  obtain ⟨r0, s0, e0, r01, r02, pu0, kp0⟩ := hd (m := b) (k := k + 999) h (by omega) (by omega)
  have lim : LIM = 1000000 := rfl
  have h0 : s0.length = s.length := kp0.1
  -- the first loop
  let F1 : Item → Env → Sto → RS := fun x e1 s2 => bindS (.nm 4) x s2 e1 fun e2 => exs P (.cons (.asg (.nm 6) (.call d (.cons (.v 0) (.cons (.bin .add false (.v 4) (.k (.int 1))) .nil)))) (.cons (.ex (.app (.v 3) (.ix (.lst false (.cons (.tup (.cons (.v 6) (.cons (.v 4) .nil))) (.cons (.tup (.cons (.v 4) (.cons (.v 6) .nil))) (.cons (.tup (.cons (.v 4) (.cons (.v 4) .nil))) (.cons (.tup (.cons (.v 6) (.cons (.v 4) .nil))) .nil))))) (.call d (.cons (.v 0) (.cons (.k (.int 4)) .nil)))))) .nil)) e2 s2
  let I1 : Nat → Env → Sto → Prop := fun i e s2 => (∃ z z2 z3 z4, e = [some (.o p), some (.p (.int b)), some (.p (.int (1 + r0))), some (.o s0.length), z, z2, z3, z4]) ∧ ∃ ls : List (Int × Int), s2[s0.length]? = some (some (.lst (lnD ls))) ∧ ls.length = i ∧ (∀ x ∈ ls, 0 ≤ x.1 ∧ x.1 < i ∧ 0 ≤ x.2 ∧ x.2 < i) ∧ (∀ v : Int, 0 ≤ v → v < i → ∃ x ∈ ls, x.1 = v ∨ x.2 = v) ∧ Pu s2 p c (k + 999 - 2 * i) ∧ Ks p c s0 s2
  have step1 : ∀ (i : Nat) (x : Item) (e : Env) (s2 : Sto), ((List.range (1 + r0).toNat).map fun (k : Nat) => Item.one (.p (.int (k : Int))))[i]? = some x → I1 i e s2 → ∃ e' s', F1 x e s2 = .nx e' s' ∧ I1 (i + 1) e' s' := by
    rintro i x e s2 hx ⟨⟨z, z2, z3, z4, rfl⟩, ls, k1, k2, k3, k4, k5, k6⟩
    obtain ⟨hi, rfl⟩ := rng_get hx
    have hi' : (i : Int) < 21 := by omega
    have pu2 : Pu s2 p c ((k + 999 - 2 * (i + 1)) + 1 + 1) := k5.le (by omega)
    obtain ⟨r1, s3, e3, a1, a2, pu3, kp3⟩ := hd (m := (i : Int) + 1) pu2 (by omega) (by omega)
    obtain ⟨r2, s4, e4, b1, b2, pu4, kp4⟩ := hd (m := 4) pu3 (by omega) (by omega)
    obtain ⟨j, rfl⟩ := Int.eq_ofNat_of_zero_le b1
    have c3 : s3[s0.length]? = some (some (.lst (lnD ls))) := by rw [kp3.2 _ (by omega) (by omega)]; exact k1
    have c4 : s4[s0.length]? = some (some (.lst (lnD ls))) := by rw [kp4.2 _ (by omega) (by omega)]; exact c3
    have hj : j < 4 := by omega
    have key : ∃ x : Int × Int, ([.tuple [.int r1, .int (i : Int)], .tuple [.int (i : Int), .int r1], .tuple [.int (i : Int), .int (i : Int)], .tuple [.int r1, .int (i : Int)]] : List PyData)[j]? = some (prP x) ∧ (0 ≤ x.1 ∧ x.1 < i + 1 ∧ 0 ≤ x.2 ∧ x.2 < i + 1) ∧ (x.1 = i ∨ x.2 = i) := by
      match j, hj with
      | 0, _ => exact ⟨(r1, (i : Int)), rfl, ⟨a1, by simpa using a2, by simp <;> omega, by simp <;> omega⟩, .inr rfl⟩
      | 1, _ => exact ⟨((i : Int), r1), rfl, ⟨by simp <;> omega, by simp <;> omega, a1, by simpa using a2⟩, .inl rfl⟩
      | 2, _ => exact ⟨((i : Int), (i : Int)), rfl, ⟨by simp <;> omega, by simp <;> omega, by simp <;> omega, by simp <;> omega⟩, .inl rfl⟩
      | 3, _ => exact ⟨(r1, (i : Int)), rfl, ⟨a1, by simpa using a2, by simp <;> omega, by simp <;> omega⟩, .inr rfl⟩
    obtain ⟨x, kx, x1, x2⟩ := key
    refine ⟨_, s4.set s0.length (some (.lst (lnD (ls ++ [x])))), ?_, ⟨some (.p (.int i)), z2, some (.p (.int r1)), z4, rfl⟩, ls ++ [x], ?_, ?_, ?_, ?_, ?_, ?_⟩
    · show exs P _ [some (.o p), some (.p (.int b)), some (.p (.int (1 + r0))), some (.o s0.length), some (.p (.int i)), z2, z3, z4] s2 = _
      rw [st_asg (by simp only [ev_v, ev_k, ev_g, ev_tup, ev_lst, ev_bin, ev_neg, ev_nt, ev_cmp, ev_chn, ev_an, ev_orr, ev_ife, ev_ix, ev_sl, ev_rev, ev_call, ev_bi, ev_isi, ev_isx, ev_app, ev_ins, ev_frz, ev_fld, evs_nil, evs_cons, evo_no, evo_so, G.R.bind_ok, rOr_some, vr_s, dInt_i, dBool_b, b_add, b_sub, b_pow18, b_pow9, c_lt, c_le, c_gt, c_ge, c_is, c_isn, List.getElem?_cons_succ, List.getElem?_cons_zero, List.set_cons_succ, List.set_cons_zero, brR_t, brR_f, e3] <;> rfl) rfl]
      simp only [List.set_cons_succ, List.set_cons_zero]
      rw [st_ex (d := .p .none) (s1 := s4.set s0.length (some (.lst (lnD (ls ++ [x]))))) ?_, st_nil]
      simp only [ev_v, ev_k, ev_g, ev_tup, ev_lst, ev_bin, ev_neg, ev_nt, ev_cmp, ev_chn, ev_an, ev_orr, ev_ife, ev_ix, ev_sl, ev_rev, ev_call, ev_bi, ev_isi, ev_isx, ev_app, ev_ins, ev_frz, ev_fld, evs_nil, evs_cons, evo_no, evo_so, G.R.bind_ok, rOr_some, vr_s, dInt_i, dBool_b, b_add, b_sub, b_pow18, b_pow9, c_lt, c_le, c_gt, c_ge, c_is, c_isn, List.getElem?_cons_succ, List.getElem?_cons_zero, List.set_cons_succ, List.set_cons_zero, brR_t, brR_f, asL_o c3, mkT_2, mkL_4, e4, i_ix (asSq_l _) (atI_nat (pD_get kx)), i_app c4 (show (lnD ls).length < LIM by rw [lnD_len]; omega), lnD_app]
    · exact List.getElem?_set_self (List.getElem?_eq_some_iff.mp c4).1
    · rw [List.length_append, k2]; rfl
    · intro y hy
      rcases List.mem_append.mp hy with hy | hy
      · obtain ⟨y1, y2, y3, y4⟩ := k3 y hy
        exact ⟨y1, by push_cast; omega, y3, by push_cast; omega⟩
      · rw [List.mem_singleton.mp hy]
        exact ⟨x1.1, by push_cast; exact x1.2.1, x1.2.2.1, by push_cast; exact x1.2.2.2⟩
    · intro v v1 v2
      by_cases q : v < i
      · obtain ⟨y, hy, e⟩ := k4 v v1 q
        exact ⟨y, List.mem_append_left _ hy, e⟩
      · have : v = i := by push_cast at v2; omega
        subst this
        exact ⟨x, List.mem_append_right _ (by simp), x2⟩
    · exact (pu4.le (by omega)).set (by omega) (by omega) _
    · exact ((k6.trans kp3.ks).trans kp4.ks).set (Nat.le_refl _) _
  obtain ⟨e1, s1, hf1, ⟨z, z2, z3, z4, rfl⟩, ls1, c1, n1, rd1, pl1, pu1, ks1⟩ := forL_inv (f := F1) I1 step1 (e := [some (.o p), some (.p (.int b)), some (.p (.int (1 + r0))), some (.o s0.length), none, none, none, none]) (s := s0 ++ [some (.lst [])])
    ⟨⟨_, _, _, _, rfl⟩, [], by simp [lnD], rfl, (by simp), (fun v h1 h2 => by omega), (pu0.le (by omega)).app _, Ks.app _ _⟩
  rw [List.length_map, List.length_range] at n1 rd1 pl1 pu1
  have mN : ((1 + r0).toNat : Int) = 1 + r0 := Int.toNat_of_nonneg (by omega)
  -- the second
  obtain ⟨r5, s5, e5, r51, r52, pu5, kp5⟩ := hd (m := b + 1) (k := k + 999 - 2 * (1 + r0).toNat - 1) (pu1.le (by omega)) (by omega) (by omega)
  have c5 : s5[s0.length]? = some (some (.lst (lnD ls1))) := by rw [kp5.2 _ (by omega) (by omega)]; exact c1
  let F2 : Item → Env → Sto → RS := fun x e1 s2 => bindS (.nm 5) x s2 e1 fun e2 => exs P (.cons (.asg (.nm 7) (.tup (.cons (.call d (.cons (.v 0) (.cons (.v 2) .nil))) (.cons (.call d (.cons (.v 0) (.cons (.v 2) .nil))) .nil)))) (.cons (.ex (.app (.v 3) (.ix (.lst false (.cons (.v 7) (.cons (.v 7) (.cons (.ix (.v 3) (.call d (.cons (.v 0) (.cons (.bi .len false (.v 3)) .nil)))) (.cons (.tup (.cons (.ix (.v 7) (.k (.int 0))) (.cons (.ix (.v 7) (.k (.int 0))) .nil))) .nil))))) (.call d (.cons (.v 0) (.cons (.k (.int 4)) .nil)))))) .nil)) e2 s2
  let I2 : Nat → Env → Sto → Prop := fun i e s2 => (∃ z z2 z3 z4, e = [some (.o p), some (.p (.int b)), some (.p (.int (1 + r0))), some (.o s0.length), z, z2, z3, z4]) ∧ ∃ ls : List (Int × Int), s2[s0.length]? = some (some (.lst (lnD ls))) ∧ ls.length = ls1.length + i ∧ (∀ x ∈ ls, 0 ≤ x.1 ∧ x.1 < 1 + r0 ∧ 0 ≤ x.2 ∧ x.2 < 1 + r0) ∧ (∀ x ∈ ls1, x ∈ ls) ∧ Pu s2 p c (k + 900 - 4 * i) ∧ Ks p c s0 s2
  have step2 : ∀ (i : Nat) (x : Item) (e : Env) (s2 : Sto), ((List.range r5.toNat).map fun (k : Nat) => Item.one (.p (.int (k : Int))))[i]? = some x → I2 i e s2 → ∃ e' s', F2 x e s2 = .nx e' s' ∧ I2 (i + 1) e' s' := by
    rintro i x e s2 hx ⟨⟨z, z2, z3, z4, rfl⟩, ls, k1, k2, k3, k4, k5, k6⟩
    obtain ⟨hi, rfl⟩ := rng_get hx
    have hi' : (i : Int) < 21 := by omega
    have lb : ls.length ≤ 60 := by omega
    have l0 : 0 < ls.length := by omega
    have pu2 : Pu s2 p c ((k + 900 - 4 * (i + 1)) + 1 + 1 + 1 + 1) := k5.le (by omega)
    obtain ⟨q1, s3, e3, a1, a2, pu3, kp3⟩ := hd (m := 1 + r0) pu2 (by omega) (by omega)
    obtain ⟨q2, s4, e4, b1, b2, pu4, kp4⟩ := hd (m := 1 + r0) pu3 (by omega) (by omega)
    have c4 : s4[s0.length]? = some (some (.lst (lnD ls))) := by rw [kp4.2 _ (by omega) (by omega), kp3.2 _ (by omega) (by omega)]; exact k1
    obtain ⟨q3, s6, e6, d1, d2, pu6, kp6⟩ := hd (m := ((lnD ls).length : Int)) pu4 (by rw [lnD_len]; omega) (by rw [lnD_len]; omega)
    rw [lnD_len] at d2
    have c6 : s6[s0.length]? = some (some (.lst (lnD ls))) := by rw [kp6.2 _ (by omega) (by omega)]; exact c4
    obtain ⟨q4, s7, e7, f1, f2, pu7, kp7⟩ := hd (m := 4) pu6 (by omega) (by omega)
    have c7 : s7[s0.length]? = some (some (.lst (lnD ls))) := by rw [kp7.2 _ (by omega) (by omega)]; exact c6
    obtain ⟨j3, rfl⟩ := Int.eq_ofNat_of_zero_le d1
    obtain ⟨j, rfl⟩ := Int.eq_ofNat_of_zero_le f1
    have hj : j < 4 := by omega
    have hj3 : j3 < ls.length := by omega
    have key : ∃ x : Int × Int, ([.tuple [.int q1, .int q2], .tuple [.int q1, .int q2], prP ls[j3], .tuple [.int q1, .int q1]] : List PyData)[j]? = some (prP x) ∧ (0 ≤ x.1 ∧ x.1 < 1 + r0 ∧ 0 ≤ x.2 ∧ x.2 < 1 + r0) := by
      match j, hj with
      | 0, _ => exact ⟨(q1, q2), rfl, a1, a2, b1, b2⟩
      | 1, _ => exact ⟨(q1, q2), rfl, a1, a2, b1, b2⟩
      | 2, _ => exact ⟨ls[j3], rfl, k3 _ (List.getElem_mem hj3)⟩
      | 3, _ => exact ⟨(q1, q1), rfl, a1, a2, a1, a2⟩
    obtain ⟨x, kx, x1⟩ := key
    refine ⟨_, s7.set s0.length (some (.lst (lnD (ls ++ [x])))), ?_, ⟨z, some (.p (.int i)), z3, some (.p (.tuple [.int q1, .int q2])), rfl⟩, ls ++ [x], ?_, ?_, ?_, ?_, ?_, ?_⟩
    · show exs P _ [some (.o p), some (.p (.int b)), some (.p (.int (1 + r0))), some (.o s0.length), z, some (.p (.int i)), z3, z4] s2 = _
      rw [st_asg (by simp only [ev_v, ev_k, ev_g, ev_tup, ev_lst, ev_bin, ev_neg, ev_nt, ev_cmp, ev_chn, ev_an, ev_orr, ev_ife, ev_ix, ev_sl, ev_rev, ev_call, ev_bi, ev_isi, ev_isx, ev_app, ev_ins, ev_frz, ev_fld, evs_nil, evs_cons, evo_no, evo_so, G.R.bind_ok, rOr_some, vr_s, dInt_i, dBool_b, b_add, b_sub, b_pow18, b_pow9, c_lt, c_le, c_gt, c_ge, c_is, c_isn, List.getElem?_cons_succ, List.getElem?_cons_zero, List.set_cons_succ, List.set_cons_zero, brR_t, brR_f, e3, e4, mkT_2] <;> rfl) rfl]
      simp only [List.set_cons_succ, List.set_cons_zero]
      rw [st_ex (d := .p .none) (s1 := s7.set s0.length (some (.lst (lnD (ls ++ [x]))))) ?_, st_nil]
      simp only [ev_v, ev_k, ev_g, ev_tup, ev_lst, ev_bin, ev_neg, ev_nt, ev_cmp, ev_chn, ev_an, ev_orr, ev_ife, ev_ix, ev_sl, ev_rev, ev_call, ev_bi, ev_isi, ev_isx, ev_app, ev_ins, ev_frz, ev_fld, evs_nil, evs_cons, evo_no, evo_so, G.R.bind_ok, rOr_some, vr_s, dInt_i, dBool_b, b_add, b_sub, b_pow18, b_pow9, c_lt, c_le, c_gt, c_ge, c_is, c_isn, List.getElem?_cons_succ, List.getElem?_cons_zero, List.set_cons_succ, List.set_cons_zero, brR_t, brR_f, asL_o c4, l_len false (asSq_o c4), e6, i_ix (asSq_o c6) (atI_nat (lnD_get hj3)), i_ix (asSq_t _) (show atI (([.int q1, .int q2] : List PyData).map D.p) 0 = some (.p (.int q1)) from rfl), mkT_2, mkL_4, e7, i_ix (asSq_l _) (atI_nat (pD_get kx)), i_app c7 (show (lnD ls).length < LIM by rw [lnD_len]; omega), lnD_app]
    · exact List.getElem?_set_self (List.getElem?_eq_some_iff.mp c7).1
    · rw [List.length_append, k2]; rfl
    · intro y hy
      rcases List.mem_append.mp hy with hy | hy
      · exact k3 y hy
      · rw [List.mem_singleton.mp hy]
        exact x1
    · exact fun y hy => List.mem_append_left _ (k4 y hy)
    · exact (pu7.le (by omega)).set (by omega) (by omega) _
    · exact ((((k6.trans kp3.ks).trans kp4.ks).trans kp6.ks).trans kp7.ks).set (Nat.le_refl _) _
  obtain ⟨e2, s2, hf2, ⟨y, y2, y3, y4, rfl⟩, ls2, c2, n2, rd2, sub2, pu2, ks2⟩ := forL_inv (f := F2) I2 step2 (e := [some (.o p), some (.p (.int b)), some (.p (.int (1 + r0))), some (.o s0.length), z, z2, z3, z4]) (s := s5)
    ⟨⟨_, _, _, _, rfl⟩, ls1, c5, rfl, fun x hx => by have := rd1 x hx; rw [mN] at this; exact this, fun _ hx => hx, pu5.le (by omega), ks1.trans kp5.ks⟩
  rw [List.length_map, List.length_range] at n2 pu2
  have fz : frz 8 (.o s0.length) s2 = some (.list (ls2.map prP), s2.set s0.length none) := frz_l c2
  have pu8 : Pu (s2.set s0.length none) p c ((k + 500) + (ls2.map prP).length) := (pu2.le (by rw [List.length_map]; omega)).set (by omega) (by omega) _
  obtain ⟨ys, s9, e9, pe, pu9, kp9⟩ := hm pu8 (by rw [List.length_map]; omega)
  obtain ⟨ls3, rfl, pe3⟩ : ∃ ls3 : List (Int × Int), ys = ls3.map prP ∧ ls3.Perm ls2 := by
    exact perm_map pe
  have ks9 : Ks p c s s9 := kp0.ks.trans ((ks2.set (Nat.le_refl _) none).trans kp9.ks)
  obtain ⟨sE, ec, puE, kpE⟩ := cut_ks l1 l2 (pu9.le (show k ≤ k + 500 by omega)) ks9
  refine ⟨1 + r0, ls3, sE, ?_, ⟨by omega, by omega, ?_, ?_, fun x hx => rd2 x (pe3.mem_iff.mp hx), fun v v1 v2 => ?_⟩, puE, kpE⟩
  · show runB P ⟨2, 8, bTown d m, true⟩ [.o p, .p (.int b)] s = _
    unfold runB
    have e' : exs P (bTown d m) (([.o p, .p (.int b)] : List D).map some ++ List.replicate (8 - ([.o p, .p (.int b)] : List D).length) none) s = .rt (.p (townP (1 + r0) ls3)) s9 := by
      show exs P (bTown d m) [some (.o p), some (.p (.int b)), none, none, none, none, none, none] s = _
      unfold bTown
      rw [st_asg (by simp only [ev_v, ev_k, ev_g, ev_tup, ev_lst, ev_bin, ev_neg, ev_nt, ev_cmp, ev_chn, ev_an, ev_orr, ev_ife, ev_ix, ev_sl, ev_rev, ev_call, ev_bi, ev_isi, ev_isx, ev_app, ev_ins, ev_frz, ev_fld, evs_nil, evs_cons, evo_no, evo_so, G.R.bind_ok, rOr_some, vr_s, dInt_i, dBool_b, b_add, b_sub, b_pow18, b_pow9, c_lt, c_le, c_gt, c_ge, c_is, c_isn, List.getElem?_cons_succ, List.getElem?_cons_zero, List.set_cons_succ, List.set_cons_zero, brR_t, brR_f, e0] <;> rfl) rfl]
      rw [st_asg (by simp only [ev_v, ev_k, ev_g, ev_tup, ev_lst, ev_bin, ev_neg, ev_nt, ev_cmp, ev_chn, ev_an, ev_orr, ev_ife, ev_ix, ev_sl, ev_rev, ev_call, ev_bi, ev_isi, ev_isx, ev_app, ev_ins, ev_frz, ev_fld, evs_nil, evs_cons, evo_no, evo_so, G.R.bind_ok, rOr_some, vr_s, dInt_i, dBool_b, b_add, b_sub, b_pow18, b_pow9, c_lt, c_le, c_gt, c_ge, c_is, c_isn, List.getElem?_cons_succ, List.getElem?_cons_zero, List.set_cons_succ, List.set_cons_zero, brR_t, brR_f, mkL_c [] s0 (by decide)] <;> rfl) rfl]
      simp only [List.set_cons_succ, List.set_cons_zero]
      rw [st_for (r_rng (by simp only [ev_v, ev_k, ev_g, ev_tup, ev_lst, ev_bin, ev_neg, ev_nt, ev_cmp, ev_chn, ev_an, ev_orr, ev_ife, ev_ix, ev_sl, ev_rev, ev_call, ev_bi, ev_isi, ev_isx, ev_app, ev_ins, ev_frz, ev_fld, evs_nil, evs_cons, evo_no, evo_so, G.R.bind_ok, rOr_some, vr_s, dInt_i, dBool_b, b_add, b_sub, b_pow18, b_pow9, c_lt, c_le, c_gt, c_ge, c_is, c_isn, List.getElem?_cons_succ, List.getElem?_cons_zero, List.set_cons_succ, List.set_cons_zero, brR_t, brR_f] <;> rfl) (by omega) (by omega)) hf1]
      rw [st_for (r_rng (by simp only [ev_v, ev_k, ev_g, ev_tup, ev_lst, ev_bin, ev_neg, ev_nt, ev_cmp, ev_chn, ev_an, ev_orr, ev_ife, ev_ix, ev_sl, ev_rev, ev_call, ev_bi, ev_isi, ev_isx, ev_app, ev_ins, ev_frz, ev_fld, evs_nil, evs_cons, evo_no, evo_so, G.R.bind_ok, rOr_some, vr_s, dInt_i, dBool_b, b_add, b_sub, b_pow18, b_pow9, c_lt, c_le, c_gt, c_ge, c_is, c_isn, List.getElem?_cons_succ, List.getElem?_cons_zero, List.set_cons_succ, List.set_cons_zero, brR_t, brR_f, e5] <;> rfl) (by omega) (by omega)) hf2]
      rw [st_ret (by simp only [ev_v, ev_k, ev_g, ev_tup, ev_lst, ev_bin, ev_neg, ev_nt, ev_cmp, ev_chn, ev_an, ev_orr, ev_ife, ev_ix, ev_sl, ev_rev, ev_call, ev_bi, ev_isi, ev_isx, ev_app, ev_ins, ev_frz, ev_fld, evs_nil, evs_cons, evo_no, evo_so, G.R.bind_ok, rOr_some, vr_s, dInt_i, dBool_b, b_add, b_sub, b_pow18, b_pow9, c_lt, c_le, c_gt, c_ge, c_is, c_isn, List.getElem?_cons_succ, List.getElem?_cons_zero, List.set_cons_succ, List.set_cons_zero, brR_t, brR_f, fz, e9, mkT_2] <;> rfl)]
      rfl
    show (match exs P (bTown d m) _ s with
      | .nx _ s' => finO _ (.p .none) s s'
      | .rt d s' => finO _ d s s'
      | .exc x _ s' => finX x s s'
      | _ => .bad) = _
    rw [e']
    exact finO_p rfl ec
  · rw [pe3.length_eq]
    omega
  · rw [pe3.length_eq]
    omega
  · obtain ⟨x, hx, hv⟩ := pl1 v v1 (by rw [mN]; exact v2)
    exact ⟨x, pe3.mem_iff.mpr (sub2 x hx), hv⟩
end
end G

namespace G
open PySem PySem.Spec PyProof.Rows L2
open Classical
noncomputable section
/-! ### loops that end at the first bad turn; blocks without an effect -/
/-- the first bad turn's answer, or what comes behind -/
def fstR (o : Option Nat) (v : Nat → D) (s : Sto) (r : RS) : RS := match o with
  | some i => .rt (v i) s
  | none => r
theorem forL_first {f : Item → Env → Sto → RS} {items : List Item} {s : Sto} (bad : Nat → Bool) (v : Nat → D) (I : Env → Prop) (hs : ∀ i x e, items[i]? = some x → I e → (bad i = true → f x e s = .rt (v i) s) ∧ (bad i = false → ∃ e', f x e s = .nx e' s ∧ I e')) {e : Env} (h0 : I e) :
    ∃ e', I e' ∧ forL f items e s = fstR ((List.range items.length).find? bad) v s (.nx e' s) := by
  have gen : ∀ (n i : Nat) (e : Env), items.length - i = n → i ≤ items.length → I e → ∃ e', I e' ∧ forL f (items.drop i) e s = fstR ((List.range' i n).find? bad) v s (.nx e' s) := by
    intro n
    induction n with
    | zero =>
      intro i e hn hi h
      have : i = items.length := by omega
      subst this
      rw [List.drop_length]
      exact ⟨e, h, rfl⟩
    | succ n ih =>
      intro i e hn hi h
      have hlt : i < items.length := by omega
      rw [List.drop_eq_getElem_cons hlt, List.range'_succ, List.find?_cons]
      obtain ⟨h1, h2⟩ := hs i items[i] e (List.getElem?_eq_getElem hlt) h
      cases q : bad i with
      | true =>
        simp only [forL, h1 q]
        exact ⟨e, h, rfl⟩
      | false =>
        obtain ⟨e', k1, k2⟩ := h2 q
        simp only [forL, k1]
        exact ih (i + 1) e' (by omega) hlt k2
  obtain ⟨e', k1, k2⟩ := gen items.length 0 e rfl (Nat.zero_le _) h0
  rw [List.drop_zero] at k2
  rw [List.range_eq_range']
  exact ⟨e', k1, k2⟩
theorem lcL_pure {f : Item → Sto → R (Option D)} {s : Sto} (g : Item → Option D) : ∀ {items : List Item}, (∀ x ∈ items, f x s = .ok (g x) s) → lcL f items s = .ok (items.filterMap g) s
  | [], _ => rfl
  | x :: xs, h => by
    simp only [lcL, h x List.mem_cons_self, G.R.bind_ok, lcL_pure g fun y hy => h y (List.mem_cons_of_mem _ hy)]
    cases q : g x with
    | none => rw [List.filterMap_cons_none q]
    | some y => rw [List.filterMap_cons_some q]
theorem lcL_filt {α : Type} {f : Item → Sto → R (Option D)} {s : Sto} (it : α → Item) (q : α → Bool) (o : α → D) : ∀ {l : List α}, (∀ x ∈ l, f (it x) s = .ok (if q x = true then some (o x) else none) s) → lcL f (l.map it) s = .ok ((l.filter q).map o) s
  | [], _ => rfl
  | x :: xs, h => by
    simp only [List.map_cons, lcL, h x List.mem_cons_self, G.R.bind_ok, lcL_filt it q o fun y hy => h y (List.mem_cons_of_mem _ hy)]
    by_cases z : q x = true
    · rw [if_pos z, List.filter_cons_of_pos z]; rfl
    · rw [if_neg z, List.filter_cons_of_neg z]
theorem lcF_pure {f : Item → Sto → R (List D)} {s : Sto} (g : Item → List D) : ∀ {items : List Item}, (∀ x ∈ items, f x s = .ok (g x) s) → lcF f items s = .ok (items.flatMap g) s
  | [], _ => rfl
  | x :: xs, h => by
    simp only [lcF, h x List.mem_cons_self, G.R.bind_ok, lcF_pure g fun y hy => h y (List.mem_cons_of_mem _ hy), List.flatMap_cons]
theorem ev_lc {P : Pg} {fl : Bool} {el : E} {ow : List Nat} {tg : Tg} {it : It} {c : Eo} {e : Env} {s : Sto} {items : List Item} {ys : List D} (hi : evi P it e s = .ok items s) (hl : items.length ≤ 1000000) (h : lcL (fun x s2 => noX (rOr (bindT tg x s2 (wipeE e ow)) fun e2 => (evc P c e2 s2).bind fun q s3 => if q = true then (ev P el e2 s3).bind fun y s4 => .ok (some y) s4 else .ok none s3)) items s = .ok ys s) :
    ev P (.lc fl el ow tg it c) e s = mkL fl ys s := by
  simp only [ev, hi, G.R.bind_ok]
  rw [if_neg (fun z => z hl), h]
  rfl
theorem ev_lc2 {P : Pg} {fl : Bool} {el : E} {ow ow2 : List Nat} {tg tg2 : Tg} {it it2 : It} {c : Eo} {e : Env} {s : Sto} {items : List Item} {ys : List D} (hi : evi P it e s = .ok items s) (hl : items.length ≤ 1000) (h : lcF (fun x s2 => noX (rOr (bindT tg x s2 (wipeE e ow)) fun e2 => (evi P it2 e2 s2).bind fun ys s3 => if ¬ ys.length ≤ 1000 then .bad else
      lcL (fun y s4 => noX (rOr (bindT tg2 y s4 (wipeE e2 ow2)) fun e3 => (evc P c e3 s4).bind fun q s5 => if q = true then (ev P el e3 s5).bind fun y s6 => .ok (some y) s6 else .ok none s5)) ys s3)) items s = .ok ys s) :
    ev P (.lc2 fl el ow tg it tg2 it2 ow2 c) e s = mkL fl ys s := by
  simp only [ev, hi, G.R.bind_ok]
  rw [if_neg (fun z => z hl), h]
  rfl
theorem mkL_p (ds : List PyData) (s : Sto) (h : ds.length ≤ 1000000) : mkL false (ds.map D.p) s = .ok (.p (.list ds)) s := by
  unfold mkL
  rw [if_pos (by rw [List.length_map]; exact h)]
  have : allP (ds.map D.p) = some ds := by
    clear h
    induction ds with
    | nil => rfl
    | cons d ds ih =>
      unfold allP at ih ⊢
      simp only [List.map_cons, mapO, pOf, ih]
  rw [this]
theorem cut_self (s : Sto) : cut s s = some s := by
  unfold cut
  rw [if_pos (fun n _ => .inl rfl), List.take_length]
/-- a def that only tells -/
theorem run_pure {P : Pg} {n N : Nat} {b : Ss} {args : List D} {s : Sto} {d : PyData} (h : exs P b (args.map some ++ List.replicate (N - args.length) none) s = .rt (.p d) s) : runB P ⟨n, N, b, true⟩ args s = .ok (.p d) s := by
  unfold runB
  show (match exs P b (args.map some ++ List.replicate (N - args.length) none) s with
    | .nx _ s' => finO _ (.p .none) s s'
    | .rt d s' => finO _ d s s'
    | .exc x _ s' => finX x s s'
    | _ => .bad) = _
  rw [h]
  exact finO_p rfl (cut_self s)
theorem run_none {P : Pg} {n N : Nat} {b : Ss} {args : List D} {s : Sto} {e : Env} (h : exs P b (args.map some ++ List.replicate (N - args.length) none) s = .nx e s) : runB P ⟨n, N, b, true⟩ args s = .ok (.p .none) s := by
  unfold runB
  show (match exs P b (args.map some ++ List.replicate (N - args.length) none) s with
    | .nx _ s' => finO _ (.p .none) s s'
    | .rt d s' => finO _ d s s'
    | .exc x _ s' => finX x s s'
    | _ => .bad) = _
  rw [h]
  exact finO_p rfl (cut_self s)
theorem run_exc {P : Pg} {n N : Nat} {b : Ss} {args : List D} {s : Sto} {e : Env} {x : Xn} (h : exs P b (args.map some ++ List.replicate (N - args.length) none) s = .exc x e s) (hx : plP x.pl = true) : runB P ⟨n, N, b, true⟩ args s = .exc x s := by
  unfold runB
  show (match exs P b (args.map some ++ List.replicate (N - args.length) none) s with
    | .nx _ s' => finO _ (.p .none) s s'
    | .rt d s' => finO _ d s s'
    | .exc x _ s' => finX x s s'
    | _ => .bad) = _
  rw [h]
  show finX x s s = _
  unfold finX
  rw [if_pos hx, cut_self]
  rfl
/-! ### kinds of things -/
def isI : PyData → Bool
  | .int _ => true
  | _ => false
def isT : PyData → Bool
  | .tuple _ => true
  | _ => false
def isL : PyData → Bool
  | .list _ => true
  | _ => false
def noD : PyData → Bool
  | .dict _ => false
  | _ => true
theorem isi_tuple {s : Sto} {q : PyData} (h : noD q = true) : isiop s (.p q) .tuple = .ok (.p (.bool (isT q))) s := by cases q <;> first | rfl | cases h
theorem isi_list {s : Sto} {q : PyData} (h : noD q = true) : isiop s (.p q) .list = .ok (.p (.bool (isL q))) s := by cases q <;> first | rfl | cases h
def isB : PyData → Bool
  | .bool _ => true
  | _ => false
theorem isi_int {s : Sto} {q : PyData} (h : noD q = true) : isiop s (.p q) .int = .ok (.p (.bool (isI q || isB q))) s := by cases q <;> first | rfl | cases h
theorem isi_bool {s : Sto} {q : PyData} (h : noD q = true) : isiop s (.p q) .bool = .ok (.p (.bool (isB q))) s := by cases q <;> first | rfl | cases h
/-! ### is_whole, is_pair -/
def bWhole : Ss := (.cons (.ret (.an (.isi (.v 0) .int) (.nt (.isi (.v 0) .bool)))) .nil)
def WholeF (Φ : List D → Sto → R D) : Prop := ∀ {s : Sto} {q : PyData}, noD q = true → Φ [.p q] s = .ok (.p (.bool (isI q))) s
theorem whole_run (P : Pg) : WholeF (fun args s => runB P ⟨1, 1, bWhole, true⟩ args s) := by
  intro s q h
  refine run_pure ?_
  show exs P bWhole [some (.p q)] s = _
  unfold bWhole
  rw [st_ret (d := .p (.bool (isI q))) (s1 := s)]
  simp only [ev_v, ev_k, ev_g, ev_tup, ev_lst, ev_bin, ev_neg, ev_nt, ev_cmp, ev_chn, ev_an, ev_orr, ev_ife, ev_ix, ev_sl, ev_rev, ev_call, ev_bi, ev_isi, ev_isx, ev_app, ev_ins, ev_frz, ev_fld, evs_nil, evs_cons, evo_no, evo_so, G.R.bind_ok, rOr_some, vr_s, dInt_i, dBool_b, b_add, b_sub, b_pow18, b_pow9, c_lt, c_le, c_gt, c_ge, c_is, c_isn, List.getElem?_cons_succ, List.getElem?_cons_zero, List.set_cons_succ, List.set_cons_zero, brR_t, brR_f, isi_int h, isi_bool h]
  cases q <;> first | rfl | cases h
def bPair (w : Nat) : Ss := (.cons (.ret (.an (.isi (.v 0) .tuple) (.an (.cmp .eq (.bi .len false (.v 0)) (.k (.int 2))) (.bi .all false (.lc false (.call w (.cons (.v 1) .nil)) [1] (.nm 1) (.seq (.v 0)) .no))))) .nil)
def isP : PyData → Bool
  | .tuple [.int _, .int _] => true
  | _ => false
def PairF (Φ : List D → Sto → R D) : Prop := ∀ {s : Sto} {q : PyData}, noD q = true → (∀ l, q = .tuple l → l.length ≤ 1000 ∧ ∀ x ∈ l, noD x = true) → Φ [.p q] s = .ok (.p (.bool (isP q))) s
theorem sEq_p {s : Sto} {a b : PyData} (ha : SeqAt.shaped a = true) (hb : SeqAt.shaped b = true) : sEq (.p a) (.p b) s = some (PyData.eqv a b) := by
  have gen : sEr (.p a) (.p b) s = some (PyData.eqv a b) := by
    unfold sEr
    rw [res_p, res_p]
    dsimp only
    rw [if_pos ⟨ha, hb⟩]
  unfold sEq
  cases a with
  | str x =>
    cases b with
    | str y =>
      show some (decide (x = y)) = some (PyData.eqv (.str x) (.str y))
      simp only [PyData.eqv]
      by_cases h : x = y
      · subst h; simp
      · rw [decide_eq_false h]; simp [h]
    | _ => exact gen
  | _ => exact gen
theorem eq_p {s : Sto} {a b : PyData} (ha : SeqAt.shaped a = true) (hb : SeqAt.shaped b = true) : cmpop .eq (.p a) (.p b) s = .ok (.p (.bool (PyData.eqv a b))) s := by
  unfold cmpop
  dsimp only
  rw [sEq_p ha hb]
  rfl
theorem ne_p {s : Sto} {a b : PyData} (ha : SeqAt.shaped a = true) (hb : SeqAt.shaped b = true) : cmpop .ne (.p a) (.p b) s = .ok (.p (.bool (!PyData.eqv a b))) s := by
  unfold cmpop
  dsimp only
  rw [sEq_p ha hb]
  rfl
theorem shaped_int (i : Int) : SeqAt.shaped (.int i) = true := by simp [SeqAt.shaped, PyData.canLay0, PyData.depth]
theorem eq_int {s : Sto} {i j : Int} : cmpop .eq (.p (.int i)) (.p (.int j)) s = .ok (.p (.bool (i == j))) s := by
  rw [eq_p (shaped_int i) (shaped_int j)]
  simp only [PyData.eqv]
theorem ne_int {s : Sto} {i j : Int} : cmpop .ne (.p (.int i)) (.p (.int j)) s = .ok (.p (.bool (!(i == j)))) s := by
  rw [ne_p (shaped_int i) (shaped_int j)]
  simp only [PyData.eqv]
theorem it_tup {P : Pg} {e : Env} {s s1 : Sto} {a : E} {l : List PyData} (h : ev P a e s = .ok (.p (.tuple l)) s1) : evi P (.seq a) e s = .ok (l.map fun d => .one (.p d)) s1 := by
  simp only [evi, h, G.R.bind_ok]
theorem it_lst {P : Pg} {e : Env} {s s1 : Sto} {a : E} {l : List PyData} (h : ev P a e s = .ok (.p (.list l)) s1) : evi P (.seq a) e s = .ok (l.map fun d => .one (.p d)) s1 := by
  simp only [evi, h, G.R.bind_ok]
theorem bind_nm {i : Nat} {e : Env} {d : D} {s : Sto} (h : i < e.length) : bindT (.nm i) (.one d) s e = some (e.set i (some d)) := if_pos h
theorem noX_of {α : Type} (r : R α) (x : α) (s : Sto) (h : r = .ok x s) : noX r = .ok x s := by rw [h]; rfl
theorem a_all {fl : Bool} {s : Sto} {α : Type} (g : α → Bool) (l : List α) : biop .all fl (.p (.list (l.map fun d => PyData.bool (g d)))) s = .ok (.p (.bool (l.all g))) s := by
  have h : boolsO ((l.map fun d => PyData.bool (g d)).map D.p) = some (l.map g) := by
    unfold boolsO
    induction l with
    | nil => rfl
    | cons d l ih => simp only [List.map_cons, mapO, dBool_b, ih]
  unfold biop
  simp only [asL_p, Option.bind_some, h]
  rw [List.all_map]
  rfl
theorem pair_run (P : Pg) {w : Nat} (hw : WholeF (P.Φ w)) : PairF (fun args s => runB P ⟨1, 2, bPair w, true⟩ args s) := by
  intro s q h hl
  refine run_pure ?_
  show exs P (bPair w) [some (.p q), none] s = _
  unfold bPair
  rw [st_ret (d := .p (.bool (isP q))) (s1 := s)]
  cases q with
  | tuple l =>
    obtain ⟨l1, l2⟩ := hl l rfl
    have lc : lcL (fun x s2 => noX (rOr (bindT (.nm 1) x s2 (wipeE [some (.p (.tuple l)), none] [1])) fun e2 => (evc P .no e2 s2).bind fun q s3 => if q = true then (ev P (.call w (.cons (.v 1) .nil)) e2 s3).bind fun y s4 => .ok (some y) s4 else .ok none s3)) (l.map fun d => Item.one (.p d)) s = .ok ((l.map fun d => PyData.bool (isI d)).map D.p) s := by
      have gg : ∀ x ∈ l.map (fun d => Item.one (.p d)), (fun x s2 => noX (rOr (bindT (.nm 1) x s2 (wipeE [some (.p (.tuple l)), none] [1])) fun e2 => (evc P .no e2 s2).bind fun q s3 => if q = true then (ev P (.call w (.cons (.v 1) .nil)) e2 s3).bind fun y s4 => .ok (some y) s4 else .ok none s3)) x s = .ok ((fun x => match x with
        | .one (.p d) => some (D.p (.bool (isI d)))
        | _ => none) x) s := by
        intro x hx
        obtain ⟨d, hd, rfl⟩ := List.mem_map.mp hx
        refine noX_of _ _ _ ?_
        rw [bind_nm (by show 1 < 2; decide), rOr_some]
        simp only [evc, G.R.bind_ok, if_true, wipeE]
        simp only [ev_v, ev_k, ev_g, ev_tup, ev_lst, ev_bin, ev_neg, ev_nt, ev_cmp, ev_chn, ev_an, ev_orr, ev_ife, ev_ix, ev_sl, ev_rev, ev_call, ev_bi, ev_isi, ev_isx, ev_app, ev_ins, ev_frz, ev_fld, evs_nil, evs_cons, evo_no, evo_so, G.R.bind_ok, rOr_some, vr_s, dInt_i, dBool_b, b_add, b_sub, b_pow18, b_pow9, c_lt, c_le, c_gt, c_ge, c_is, c_isn, List.getElem?_cons_succ, List.getElem?_cons_zero, List.set_cons_succ, List.set_cons_zero, brR_t, brR_f, hw (l2 d hd)]
      rw [lcL_pure _ gg]
      rw [List.filterMap_map, List.map_map]
      congr 1
      rw [← List.filterMap_eq_map]
      rfl
    have e3 := ev_lc (P := P) (fl := false) (el := .call w (.cons (.v 1) .nil)) (ow := [1]) (tg := .nm 1) (it := .seq (.v 0)) (c := .no) (e := [some (.p (.tuple l)), none]) (s := s) (it_tup (by simp only [ev_v, ev_k, ev_g, ev_tup, ev_lst, ev_bin, ev_neg, ev_nt, ev_cmp, ev_chn, ev_an, ev_orr, ev_ife, ev_ix, ev_sl, ev_rev, ev_call, ev_bi, ev_isi, ev_isx, ev_app, ev_ins, ev_frz, ev_fld, evs_nil, evs_cons, evo_no, evo_so, G.R.bind_ok, rOr_some, vr_s, dInt_i, dBool_b, b_add, b_sub, b_pow18, b_pow9, c_lt, c_le, c_gt, c_ge, c_is, c_isn, List.getElem?_cons_succ, List.getElem?_cons_zero, List.set_cons_succ, List.set_cons_zero, brR_t, brR_f] <;> rfl)) (by rw [List.length_map]; omega) lc
    rw [mkL_p _ _ (by rw [List.length_map]; omega)] at e3
    simp only [ev_v, ev_k, ev_g, ev_tup, ev_lst, ev_bin, ev_neg, ev_nt, ev_cmp, ev_chn, ev_an, ev_orr, ev_ife, ev_ix, ev_sl, ev_rev, ev_call, ev_bi, ev_isi, ev_isx, ev_app, ev_ins, ev_frz, ev_fld, evs_nil, evs_cons, evo_no, evo_so, G.R.bind_ok, rOr_some, vr_s, dInt_i, dBool_b, b_add, b_sub, b_pow18, b_pow9, c_lt, c_le, c_gt, c_ge, c_is, c_isn, List.getElem?_cons_succ, List.getElem?_cons_zero, List.set_cons_succ, List.set_cons_zero, brR_t, brR_f, isi_tuple h, isT, l_len false (asSq_t l), eq_int, e3, a_all isI l]
    rw [brR_b, List.length_map]
    match l, l2 with
    | [], _ => rfl
    | [a], _ => cases a <;> rfl
    | [a, b], l2 =>
      cases a <;> cases b <;> rfl
    | a :: b :: x :: l, _ =>
      rw [if_neg]
      · cases a <;> cases b <;> rfl
      · simp
        omega
  | dict l => cases h
  | _ =>
    simp only [ev_v, ev_k, ev_g, ev_tup, ev_lst, ev_bin, ev_neg, ev_nt, ev_cmp, ev_chn, ev_an, ev_orr, ev_ife, ev_ix, ev_sl, ev_rev, ev_call, ev_bi, ev_isi, ev_isx, ev_app, ev_ins, ev_frz, ev_fld, evs_nil, evs_cons, evo_no, evo_so, G.R.bind_ok, rOr_some, vr_s, dInt_i, dBool_b, b_add, b_sub, b_pow18, b_pow9, c_lt, c_le, c_gt, c_ge, c_is, c_isn, List.getElem?_cons_succ, List.getElem?_cons_zero, List.set_cons_succ, List.set_cons_zero, brR_t, brR_f, isi_tuple h, isT]
    rfl
end
end G

namespace G
open PySem PySem.Spec PyProof.Rows L2
open Classical
noncomputable section
/-! ### places, ends -/
def atL (ls : List (Int × Int)) (r sd : Nat) : Int := if sd = 0 then (ls.getD r (0, 0)).1 else (ls.getD r (0, 0)).2
def enP (x : Nat × Nat) : PyData := .tuple [.int x.1, .int x.2]
def bPlace : Ss := (.cons (.ret (.ix (.ix (.ix (.v 0) (.k (.int 1))) (.ix (.v 1) (.k (.int 0)))) (.ix (.v 1) (.k (.int 1))))) .nil)
def PlaceF (Φ : List D → Sto → R D) : Prop := ∀ {s : Sto} {many : Int} {ls : List (Int × Int)} {r sd : Nat}, r < ls.length → sd < 2 → Φ [.p (townP many ls), .p (enP (r, sd))] s = .ok (.p (.int (atL ls r sd))) s
theorem at_town1 (many : Int) (ls : List (Int × Int)) : atI (([.int many, .list (ls.map prP)] : List PyData).map D.p) 1 = some (.p (.list (ls.map prP))) := rfl
theorem at_town0 (many : Int) (ls : List (Int × Int)) : atI (([.int many, .list (ls.map prP)] : List PyData).map D.p) 0 = some (.p (.int many)) := rfl
theorem at_pr {x : Int × Int} {sd : Nat} (h : sd < 2) : atI (([.int x.1, .int x.2] : List PyData).map D.p) (sd : Int) = some (.p (.int (if sd = 0 then x.1 else x.2))) := by
  match sd, h with
  | 0, _ => rfl
  | 1, _ => rfl
theorem place_ev {P : Pg} {s : Sto} {many : Int} {ls : List (Int × Int)} {r sd : Nat} (h : r < ls.length) (h2 : sd < 2) : exs P bPlace [some (.p (townP many ls)), some (.p (enP (r, sd)))] s = .rt (.p (.int (atL ls r sd))) s := by
  unfold bPlace townP enP
  have e : atL ls r sd = if sd = 0 then (ls[r]).1 else (ls[r]).2 := by
    unfold atL
    rw [List.getD_eq_getElem?_getD, List.getElem?_eq_getElem h]
    rfl
  rw [e]
  rw [st_ret (by simp only [ev_v, ev_k, ev_g, ev_tup, ev_lst, ev_bin, ev_neg, ev_nt, ev_cmp, ev_chn, ev_an, ev_orr, ev_ife, ev_ix, ev_sl, ev_rev, ev_call, ev_bi, ev_isi, ev_isx, ev_app, ev_ins, ev_frz, ev_fld, evs_nil, evs_cons, evo_no, evo_so, G.R.bind_ok, rOr_some, vr_s, dInt_i, dBool_b, b_add, b_sub, b_pow18, b_pow9, c_lt, c_le, c_gt, c_ge, c_is, c_isn, List.getElem?_cons_succ, List.getElem?_cons_zero, List.set_cons_succ, List.set_cons_zero, brR_t, brR_f, i_ix (asSq_t _) (at_town1 many ls), i_ix (asSq_t _) (show atI (([.int (r : Int), .int (sd : Int)] : List PyData).map D.p) 0 = some (.p (.int (r : Int))) from rfl), i_ix (asSq_t _) (show atI (([.int (r : Int), .int (sd : Int)] : List PyData).map D.p) 1 = some (.p (.int (sd : Int))) from rfl), i_ix (asSq_l _) (atI_nat (lnD_get h)), prP, i_ix (asSq_t _) (at_pr (x := ls[r]) h2)] <;> rfl)]
theorem place_run (P : Pg) : PlaceF (fun args s => runB P ⟨2, 2, bPlace, true⟩ args s) := fun h h2 => run_pure (place_ev h h2)
def allE (n : Nat) : List (Nat × Nat) := (List.range n).flatMap fun r => [(r, 0), (r, 1)]
theorem allE_mem {n : Nat} {x : Nat × Nat} (h : x ∈ allE n) : x.1 < n ∧ x.2 < 2 := by
  unfold allE at h
  obtain ⟨r, hr, hx⟩ := List.mem_flatMap.mp h
  have := List.mem_range.mp hr
  simp only [List.mem_cons, List.not_mem_nil, or_false] at hx
  rcases hx with rfl | rfl <;> simp <;> omega
theorem allE_len (n : Nat) : (allE n).length = 2 * n := by
  unfold allE
  induction n with
  | zero => rfl
  | succ n ih => rw [List.range_succ, List.flatMap_append, List.length_append, ih]; simp; omega
def bAll : Ss := (.cons (.ret (.lc2 false (.tup (.cons (.v 1) (.cons (.v 2) .nil))) [1, 2] (.nm 1) (.rng (.bi .len false (.ix (.v 0) (.k (.int 1))))) (.nm 2) (.seq (.tup (.cons (.k (.int 0)) (.cons (.k (.int 1)) .nil)))) [2] .no)) .nil)
def AllF (Φ : List D → Sto → R D) : Prop := ∀ {s : Sto} {many : Int} {ls : List (Int × Int)}, ls.length ≤ 1000 → Φ [.p (townP many ls)] s = .ok (.p (.list ((allE ls.length).map enP))) s
theorem all_run (P : Pg) : AllF (fun args s => runB P ⟨1, 3, bAll, true⟩ args s) := by
  intro s many ls hl
  refine run_pure ?_
  show exs P bAll [some (.p (townP many ls)), none, none] s = _
  unfold bAll
  have hi : evi P (.rng (.bi .len false (.ix (.v 0) (.k (.int 1))))) [some (.p (townP many ls)), none, none] s = .ok ((List.range ls.length).map fun (k : Nat) => Item.one (.p (.int (k : Int)))) s := by
    have := r_rng (P := P) (e := [some (.p (townP many ls)), none, none]) (s := s) (s1 := s) (a := .bi .len false (.ix (.v 0) (.k (.int 1)))) (i := (ls.length : Int)) (by
      unfold townP
      simp only [ev_v, ev_k, ev_g, ev_tup, ev_lst, ev_bin, ev_neg, ev_nt, ev_cmp, ev_chn, ev_an, ev_orr, ev_ife, ev_ix, ev_sl, ev_rev, ev_call, ev_bi, ev_isi, ev_isx, ev_app, ev_ins, ev_frz, ev_fld, evs_nil, evs_cons, evo_no, evo_so, G.R.bind_ok, rOr_some, vr_s, dInt_i, dBool_b, b_add, b_sub, b_pow18, b_pow9, c_lt, c_le, c_gt, c_ge, c_is, c_isn, List.getElem?_cons_succ, List.getElem?_cons_zero, List.set_cons_succ, List.set_cons_zero, brR_t, brR_f, i_ix (asSq_t _) (at_town1 many ls), l_len false (asSq_l (ls.map prP)), List.length_map]) (by omega) (by omega)
    rw [this]
    simp
  have key : ev P (.lc2 false (.tup (.cons (.v 1) (.cons (.v 2) .nil))) [1, 2] (.nm 1) (.rng (.bi .len false (.ix (.v 0) (.k (.int 1))))) (.nm 2) (.seq (.tup (.cons (.k (.int 0)) (.cons (.k (.int 1)) .nil)))) [2] .no) [some (.p (townP many ls)), none, none] s = mkL false (((allE ls.length).map enP).map D.p) s := by
    refine ev_lc2 hi (by simpa using hl) ?_
    rw [lcF_pure (fun x => match x with
      | .one (.p (.int i)) => [.p (.tuple [.int i, .int 0]), .p (.tuple [.int i, .int 1])]
      | _ => [])]
    · rw [List.flatMap_map]
      unfold allE
      simp only [List.map_flatMap, List.map_cons, List.map_nil, enP]
      rfl
    · intro x hx
      obtain ⟨r, hr, rfl⟩ := List.mem_map.mp hx
      refine noX_of _ _ _ ?_
      rw [bind_nm (by show 1 < 3; decide), rOr_some]
      simp only [wipeE, List.set_cons_succ, List.set_cons_zero]
      have i2 : evi P (.seq (.tup (.cons (.k (.int 0)) (.cons (.k (.int 1)) .nil)))) [some (.p (townP many ls)), some (.p (.int (r : Int))), none] s = .ok (([.int 0, .int 1] : List PyData).map fun d => .one (.p d)) s := it_tup (by simp only [ev_v, ev_k, ev_g, ev_tup, ev_lst, ev_bin, ev_neg, ev_nt, ev_cmp, ev_chn, ev_an, ev_orr, ev_ife, ev_ix, ev_sl, ev_rev, ev_call, ev_bi, ev_isi, ev_isx, ev_app, ev_ins, ev_frz, ev_fld, evs_nil, evs_cons, evo_no, evo_so, G.R.bind_ok, rOr_some, vr_s, dInt_i, dBool_b, b_add, b_sub, b_pow18, b_pow9, c_lt, c_le, c_gt, c_ge, c_is, c_isn, List.getElem?_cons_succ, List.getElem?_cons_zero, List.set_cons_succ, List.set_cons_zero, brR_t, brR_f, mkT_2])
      rw [i2, G.R.bind_ok, if_neg (by simp)]
      refine lcL_pure (fun x => match x with
        | .one (.p (.int i)) => some (.p (.tuple [.int (r : Int), .int i]))
        | _ => none) ?_
      intro x hx
      obtain ⟨d, hd, rfl⟩ := List.mem_map.mp hx
      refine noX_of _ _ _ ?_
      rw [bind_nm (by show 2 < 3; decide), rOr_some]
      simp only [wipeE, List.set_cons_succ, List.set_cons_zero, evc, G.R.bind_ok, if_true]
      simp only [List.mem_cons, List.not_mem_nil, or_false] at hd
      rcases hd with rfl | rfl
      · simp only [ev_v, ev_k, ev_g, ev_tup, ev_lst, ev_bin, ev_neg, ev_nt, ev_cmp, ev_chn, ev_an, ev_orr, ev_ife, ev_ix, ev_sl, ev_rev, ev_call, ev_bi, ev_isi, ev_isx, ev_app, ev_ins, ev_frz, ev_fld, evs_nil, evs_cons, evo_no, evo_so, G.R.bind_ok, rOr_some, vr_s, dInt_i, dBool_b, b_add, b_sub, b_pow18, b_pow9, c_lt, c_le, c_gt, c_ge, c_is, c_isn, List.getElem?_cons_succ, List.getElem?_cons_zero, List.set_cons_succ, List.set_cons_zero, brR_t, brR_f, mkT_2]
      · simp only [ev_v, ev_k, ev_g, ev_tup, ev_lst, ev_bin, ev_neg, ev_nt, ev_cmp, ev_chn, ev_an, ev_orr, ev_ife, ev_ix, ev_sl, ev_rev, ev_call, ev_bi, ev_isi, ev_isx, ev_app, ev_ins, ev_frz, ev_fld, evs_nil, evs_cons, evo_no, evo_so, G.R.bind_ok, rOr_some, vr_s, dInt_i, dBool_b, b_add, b_sub, b_pow18, b_pow9, c_lt, c_le, c_gt, c_ge, c_is, c_isn, List.getElem?_cons_succ, List.getElem?_cons_zero, List.set_cons_succ, List.set_cons_zero, brR_t, brR_f, mkT_2]
  rw [mkL_p _ _ (by rw [List.length_map, allE_len]; omega)] at key
  rw [st_ret key]
/-! ends at a place -/
def ends (ls : List (Int × Int)) (v : Int) : List (Nat × Nat) := (allE ls.length).filter fun x => atL ls x.1 x.2 == v
theorem ends_len (ls : List (Int × Int)) (v : Int) : (ends ls v).length ≤ 2 * ls.length := by
  unfold ends
  refine Nat.le_trans (List.length_filter_le _ _) ?_
  rw [allE_len]
  exact Nat.le_refl _
def bEnds (a p : Nat) : Ss := (.cons (.ret (.lc false (.v 2) [2] (.nm 2) (.seq (.call a (.cons (.v 0) .nil))) (.so (.cmp .eq (.call p (.cons (.v 0) (.cons (.v 2) .nil))) (.v 1))))) .nil)
def EndsF (Φ : List D → Sto → R D) : Prop := ∀ {s : Sto} {many v : Int} {ls : List (Int × Int)}, ls.length ≤ 1000 → Φ [.p (townP many ls), .p (.int v)] s = .ok (.p (.list ((ends ls v).map enP))) s
theorem ends_run (P : Pg) {a p : Nat} (ha : AllF (P.Φ a)) (hp : PlaceF (P.Φ p)) : EndsF (fun args s => runB P ⟨2, 3, bEnds a p, true⟩ args s) := by
  intro s many v ls hl
  refine run_pure ?_
  show exs P (bEnds a p) [some (.p (townP many ls)), some (.p (.int v)), none] s = _
  unfold bEnds
  have gen : lcL (fun x s2 => noX (rOr (bindT (.nm 2) x s2 (wipeE [some (.p (townP many ls)), some (.p (.int v)), none] [2])) fun e2 => (evc P (.so (.cmp .eq (.call p (.cons (.v 0) (.cons (.v 2) .nil))) (.v 1))) e2 s2).bind fun q s3 => if q = true then (ev P (.v 2) e2 s3).bind fun y s4 => .ok (some y) s4 else .ok none s3)) ((allE ls.length).map fun x => Item.one (.p (enP x))) s = .ok (((ends ls v).map enP).map D.p) s := by
    rw [lcL_filt (fun x => Item.one (.p (enP x))) (fun x => atL ls x.1 x.2 == v) (fun x => .p (enP x))]
    · rw [List.map_map]
      rfl
    · intro x hx
      have h1 := allE_mem hx
      refine noX_of _ _ _ ?_
      rw [bind_nm (by show 2 < 3; decide), rOr_some]
      simp only [wipeE, List.set_cons_succ, List.set_cons_zero, evc]
      have hpp : P.Φ p [.p (townP many ls), .p (enP x)] s = .ok (.p (.int (atL ls x.1 x.2))) s := hp h1.1 h1.2
      simp only [ev_v, ev_k, ev_g, ev_tup, ev_lst, ev_bin, ev_neg, ev_nt, ev_cmp, ev_chn, ev_an, ev_orr, ev_ife, ev_ix, ev_sl, ev_rev, ev_call, ev_bi, ev_isi, ev_isx, ev_app, ev_ins, ev_frz, ev_fld, evs_nil, evs_cons, evo_no, evo_so, G.R.bind_ok, rOr_some, vr_s, dInt_i, dBool_b, b_add, b_sub, b_pow18, b_pow9, c_lt, c_le, c_gt, c_ge, c_is, c_isn, List.getElem?_cons_succ, List.getElem?_cons_zero, List.set_cons_succ, List.set_cons_zero, brR_t, brR_f, hpp, eq_int]
      by_cases q : (atL ls x.1 x.2 == v) = true
      · rw [if_pos q, if_pos q]
      · rw [if_neg q, if_neg q]
  have hi : evi P (.seq (.call a (.cons (.v 0) .nil))) [some (.p (townP many ls)), some (.p (.int v)), none] s = .ok ((allE ls.length).map fun x => Item.one (.p (enP x))) s := by
    rw [it_lst (l := (allE ls.length).map enP) (s1 := s) (by simp only [ev_v, ev_k, ev_g, ev_tup, ev_lst, ev_bin, ev_neg, ev_nt, ev_cmp, ev_chn, ev_an, ev_orr, ev_ife, ev_ix, ev_sl, ev_rev, ev_call, ev_bi, ev_isi, ev_isx, ev_app, ev_ins, ev_frz, ev_fld, evs_nil, evs_cons, evo_no, evo_so, G.R.bind_ok, rOr_some, vr_s, dInt_i, dBool_b, b_add, b_sub, b_pow18, b_pow9, c_lt, c_le, c_gt, c_ge, c_is, c_isn, List.getElem?_cons_succ, List.getElem?_cons_zero, List.set_cons_succ, List.set_cons_zero, brR_t, brR_f, ha hl]), List.map_map]
    rfl
  have key := ev_lc (P := P) (fl := false) (el := .v 2) (ow := [2]) (tg := .nm 2) (c := .so (.cmp .eq (.call p (.cons (.v 0) (.cons (.v 2) .nil))) (.v 1))) hi (by rw [List.length_map, allE_len]; omega) gen
  rw [mkL_p _ _ (by rw [List.length_map]; have := ends_len ls v; omega)] at key
  rw [st_ret key]
end
end G

namespace G
open PySem PySem.Spec PyProof.Rows L2
open Classical
noncomputable section
/-! ### the law's own ends -/
theorem b_catp {s : Sto} (xs ys : List PyData) (h : xs.length + ys.length ≤ 1000000) : binop .add false (.p (.list xs)) (.p (.list ys)) s = .ok (.p (.list (xs ++ ys))) s := by
  rw [b_cat false (asL_p xs) (asL_p ys), ← List.map_append, mkL_p _ _ (by rw [List.length_append]; exact h)]
theorem allE_succ (n : Nat) : allE (n + 1) = allE n ++ [(n, 0), (n, 1)] := by
  unfold allE
  rw [List.range_succ, List.flatMap_append]
  rfl
def bLEnds : Ss := (.cons (.asg (.nm 2) (.lst false .nil)) (.cons (.for_ (.nm 3) (.rng (.bi .len false (.ix (.v 0) (.k (.int 1))))) (.cons (.asg (.nm 2) (.bin .add false (.v 2) (.lc false (.tup (.cons (.v 3) (.cons (.v 4) .nil))) [4] (.nm 4) (.seq (.lst false (.cons (.k (.int 0)) (.cons (.k (.int 1)) .nil)))) (.so (.cmp .eq (.ix (.ix (.ix (.v 0) (.k (.int 1))) (.v 3)) (.v 4)) (.v 1)))))) .nil)) (.cons (.ret (.v 2)) .nil)))
theorem lends_run (P : Pg) : EndsF (fun args s => runB P ⟨2, 5, bLEnds, true⟩ args s) := by
  intro s many v ls hl
  refine run_pure ?_
  show exs P bLEnds [some (.p (townP many ls)), some (.p (.int v)), none, none, none] s = _
  unfold bLEnds
  rw [st_asg (by simp only [ev_v, ev_k, ev_g, ev_tup, ev_lst, ev_bin, ev_neg, ev_nt, ev_cmp, ev_chn, ev_an, ev_orr, ev_ife, ev_ix, ev_sl, ev_rev, ev_call, ev_bi, ev_isi, ev_isx, ev_app, ev_ins, ev_frz, ev_fld, evs_nil, evs_cons, evo_no, evo_so, G.R.bind_ok, rOr_some, vr_s, dInt_i, dBool_b, b_add, b_sub, b_pow18, b_pow9, c_lt, c_le, c_gt, c_ge, c_is, c_isn, List.getElem?_cons_succ, List.getElem?_cons_zero, List.set_cons_succ, List.set_cons_zero, brR_t, brR_f, mkL_0] <;> rfl) rfl]
  simp only [List.set_cons_succ, List.set_cons_zero]
  have hi : evi P (.rng (.bi .len false (.ix (.v 0) (.k (.int 1))))) [some (.p (townP many ls)), some (.p (.int v)), some (.p (.list [])), none, none] s = .ok ((List.range ls.length).map fun (k : Nat) => Item.one (.p (.int (k : Int)))) s := by
    have := r_rng (P := P) (e := [some (.p (townP many ls)), some (.p (.int v)), some (.p (.list [])), none, none]) (s := s) (s1 := s) (a := .bi .len false (.ix (.v 0) (.k (.int 1)))) (i := (ls.length : Int)) (by
      unfold townP
      simp only [ev_v, ev_k, ev_g, ev_tup, ev_lst, ev_bin, ev_neg, ev_nt, ev_cmp, ev_chn, ev_an, ev_orr, ev_ife, ev_ix, ev_sl, ev_rev, ev_call, ev_bi, ev_isi, ev_isx, ev_app, ev_ins, ev_frz, ev_fld, evs_nil, evs_cons, evo_no, evo_so, G.R.bind_ok, rOr_some, vr_s, dInt_i, dBool_b, b_add, b_sub, b_pow18, b_pow9, c_lt, c_le, c_gt, c_ge, c_is, c_isn, List.getElem?_cons_succ, List.getElem?_cons_zero, List.set_cons_succ, List.set_cons_zero, brR_t, brR_f, i_ix (asSq_t _) (at_town1 many ls), l_len false (asSq_l (ls.map prP)), List.length_map]) (by omega) (by omega)
    rw [this]
    simp
  let F : Item → Env → Sto → RS := fun x e1 s2 => bindS (.nm 3) x s2 e1 fun e2 => exs P (.cons (.asg (.nm 2) (.bin .add false (.v 2) (.lc false (.tup (.cons (.v 3) (.cons (.v 4) .nil))) [4] (.nm 4) (.seq (.lst false (.cons (.k (.int 0)) (.cons (.k (.int 1)) .nil)))) (.so (.cmp .eq (.ix (.ix (.ix (.v 0) (.k (.int 1))) (.v 3)) (.v 4)) (.v 1)))))) .nil) e2 s2
  let fd : Nat → List PyData := fun i => ((allE i).filter fun x => atL ls x.1 x.2 == v).map enP
  let I : Nat → Env → Sto → Prop := fun i e s2 => s2 = s ∧ ∃ z, e = [some (.p (townP many ls)), some (.p (.int v)), some (.p (.list (fd i))), z, none]
  have step : ∀ (i : Nat) (x : Item) (e : Env) (s2 : Sto), ((List.range ls.length).map fun (k : Nat) => Item.one (.p (.int (k : Int))))[i]? = some x → I i e s2 → ∃ e' s', F x e s2 = .nx e' s' ∧ I (i + 1) e' s' := by
    rintro i x e s2 hx ⟨rfl, z, rfl⟩
    obtain ⟨hi, rfl⟩ := rng_get hx
    have fl : (fd i).length ≤ 2 * i := by
      show (List.map _ _).length ≤ _
      rw [List.length_map]
      exact Nat.le_trans (List.length_filter_le _ _) (Nat.le_of_eq (allE_len i))
    refine ⟨[some (.p (townP many ls)), some (.p (.int v)), some (.p (.list (fd (i + 1)))), some (.p (.int (i : Int))), none], s2, ?_, rfl, _, rfl⟩
    show exs P _ [some (.p (townP many ls)), some (.p (.int v)), some (.p (.list (fd i))), some (.p (.int (i : Int))), none] s2 = _
    have i2 : evi P (.seq (.lst false (.cons (.k (.int 0)) (.cons (.k (.int 1)) .nil)))) [some (.p (townP many ls)), some (.p (.int v)), some (.p (.list (fd i))), some (.p (.int (i : Int))), none] s2 = .ok (([0, 1] : List Nat).map fun (sd : Nat) => Item.one (.p (.int (sd : Int)))) s2 := it_lst (l := [.int 0, .int 1]) (by simp only [ev_v, ev_k, ev_g, ev_tup, ev_lst, ev_bin, ev_neg, ev_nt, ev_cmp, ev_chn, ev_an, ev_orr, ev_ife, ev_ix, ev_sl, ev_rev, ev_call, ev_bi, ev_isi, ev_isx, ev_app, ev_ins, ev_frz, ev_fld, evs_nil, evs_cons, evo_no, evo_so, G.R.bind_ok, rOr_some, vr_s, dInt_i, dBool_b, b_add, b_sub, b_pow18, b_pow9, c_lt, c_le, c_gt, c_ge, c_is, c_isn, List.getElem?_cons_succ, List.getElem?_cons_zero, List.set_cons_succ, List.set_cons_zero, brR_t, brR_f, mkL_2])
    have key := ev_lc (P := P) (fl := false) (el := .tup (.cons (.v 3) (.cons (.v 4) .nil))) (ow := [4]) (tg := .nm 4) (c := .so (.cmp .eq (.ix (.ix (.ix (.v 0) (.k (.int 1))) (.v 3)) (.v 4)) (.v 1))) i2 (by simp) (lcL_filt (fun sd : Nat => Item.one (.p (.int (sd : Int)))) (fun sd => atL ls i sd == v) (fun sd => .p (enP (i, sd))) (by
      intro sd hsd
      have hsd2 : sd < 2 := by
        simp only [List.mem_cons, List.not_mem_nil, or_false] at hsd
        omega
      refine noX_of _ _ _ ?_
      rw [bind_nm (by show 4 < 5; decide), rOr_some]
      simp only [wipeE, List.set_cons_succ, List.set_cons_zero, evc]
      have e : atL ls i sd = if sd = 0 then (ls[i]).1 else (ls[i]).2 := by
        unfold atL
        rw [List.getD_eq_getElem?_getD, List.getElem?_eq_getElem hi]
        rfl
      unfold townP
      simp only [ev_v, ev_k, ev_g, ev_tup, ev_lst, ev_bin, ev_neg, ev_nt, ev_cmp, ev_chn, ev_an, ev_orr, ev_ife, ev_ix, ev_sl, ev_rev, ev_call, ev_bi, ev_isi, ev_isx, ev_app, ev_ins, ev_frz, ev_fld, evs_nil, evs_cons, evo_no, evo_so, G.R.bind_ok, rOr_some, vr_s, dInt_i, dBool_b, b_add, b_sub, b_pow18, b_pow9, c_lt, c_le, c_gt, c_ge, c_is, c_isn, List.getElem?_cons_succ, List.getElem?_cons_zero, List.set_cons_succ, List.set_cons_zero, brR_t, brR_f, i_ix (asSq_t _) (at_town1 many ls), i_ix (asSq_l _) (atI_nat (lnD_get hi)), prP, i_ix (asSq_t _) (at_pr (x := ls[i]) hsd2), eq_int, ← e, mkT_2]
      by_cases q : (atL ls i sd == v) = true
      · rw [if_pos q, if_pos q]; rfl
      · rw [if_neg q, if_neg q]))
    have e5 : (List.map (fun sd => D.p (enP (i, sd))) (List.filter (fun sd => atL ls i sd == v) [0, 1])) = ((([(i, 0), (i, 1)] : List (Nat × Nat)).filter fun x => atL ls x.1 x.2 == v).map enP).map D.p := by
      by_cases q0 : (atL ls i 0 == v) = true <;> by_cases q1 : (atL ls i 1 == v) = true <;> simp [q0, q1]
    rw [e5, mkL_p _ _ (by
      rw [List.length_map]
      exact Nat.le_trans (List.length_filter_le _ _) (by simp))] at key
    have nl : (List.map enP (List.filter (fun x => atL ls x.1 x.2 == v) [(i, 0), (i, 1)])).length ≤ 2 := by
      rw [List.length_map]
      exact Nat.le_trans (List.length_filter_le _ _) (by simp)
    rw [st_asg (by simp only [ev_v, ev_k, ev_g, ev_tup, ev_lst, ev_bin, ev_neg, ev_nt, ev_cmp, ev_chn, ev_an, ev_orr, ev_ife, ev_ix, ev_sl, ev_rev, ev_call, ev_bi, ev_isi, ev_isx, ev_app, ev_ins, ev_frz, ev_fld, evs_nil, evs_cons, evo_no, evo_so, G.R.bind_ok, rOr_some, vr_s, dInt_i, dBool_b, b_add, b_sub, b_pow18, b_pow9, c_lt, c_le, c_gt, c_ge, c_is, c_isn, List.getElem?_cons_succ, List.getElem?_cons_zero, List.set_cons_succ, List.set_cons_zero, brR_t, brR_f, key, b_catp (fd i) (List.map enP (List.filter (fun x => atL ls x.1 x.2 == v) [(i, 0), (i, 1)])) (by omega)] <;> rfl) rfl, st_nil]
    show RS.nx [some (.p (townP many ls)), some (.p (.int v)), some (.p (.list (fd i ++ _))), _, _] s2 = _
    have : fd i ++ List.map enP (List.filter (fun x => atL ls x.1 x.2 == v) [(i, 0), (i, 1)]) = fd (i + 1) := by
      show _ = ((allE (i + 1)).filter _).map enP
      rw [allE_succ, List.filter_append, List.map_append]
    rw [this]
  obtain ⟨e', s', hf, rfl, z, rfl⟩ := forL_inv (f := F) I step (e := [some (.p (townP many ls)), some (.p (.int v)), some (.p (.list [])), none, none]) (s := s) ⟨rfl, _, rfl⟩
  rw [st_for hi hf, st_ret (by simp only [ev_v, ev_k, ev_g, ev_tup, ev_lst, ev_bin, ev_neg, ev_nt, ev_cmp, ev_chn, ev_an, ev_orr, ev_ife, ev_ix, ev_sl, ev_rev, ev_call, ev_bi, ev_isi, ev_isx, ev_app, ev_ins, ev_frz, ev_fld, evs_nil, evs_cons, evo_no, evo_so, G.R.bind_ok, rOr_some, vr_s, dInt_i, dBool_b, b_add, b_sub, b_pow18, b_pow9, c_lt, c_le, c_gt, c_ge, c_is, c_isn, List.getElem?_cons_succ, List.getElem?_cons_zero, List.set_cons_succ, List.set_cons_zero, brR_t, brR_f] <;> rfl)]
  rw [List.length_map, List.length_range]
  rfl
end
end G

namespace G
open PySem PySem.Spec PyProof.Rows L2
open Classical
noncomputable section
/-! ### what a town is asked -/
def roadOk (many : Int) : PyData → Bool
  | .tuple [.int a, .int b] => decide (0 ≤ a ∧ a < many ∧ 0 ≤ b ∧ b < many)
  | _ => false
def unP : PyData → Int × Int
  | .tuple [.int a, .int b] => (a, b)
  | _ => (0, 0)
def t1 (x : Str) : PyData := .tuple [.str x]
def t2 (x : Str) (i : Nat) : PyData := .tuple [.str x, .int (i : Int)]
def twR (many : Int) (rs : List PyData) : PyData := match (List.range rs.length).find? (fun i => !roadOk many (rs.getD i .none)) with
  | some i => t2 "road" i
  | none => match (List.range many.toNat).find? (fun (v : Nat) => (ends (rs.map unP) (v : Int)).isEmpty) with
    | some v => t2 "bare" v
    | none => .none
def twB (many : Int) : PyData → PyData
  | .list rs => if 1 ≤ rs.length ∧ rs.length ≤ 16 then twR many rs else t1 "roads"
  | _ => t1 "roads"
def twA (a b : PyData) : PyData := match a with
  | .int many => if 1 ≤ many ∧ many ≤ 8 then twB many b else t1 "places"
  | _ => t1 "places"
theorem twA_int (many : Int) (b : PyData) : twA (.int many) b = if 1 ≤ many ∧ many ≤ 8 then twB many b else t1 "places" := rfl
theorem twB_list (many : Int) (rs : List PyData) : twB many (.list rs) = if 1 ≤ rs.length ∧ rs.length ≤ 16 then twR many rs else t1 "roads" := rfl
def twrong : PyData → PyData
  | .tuple [a, b] => twA a b
  | _ => t1 "town"
/-- things that are looked at: no dicts, not too long -/
def fi : Nat → PyData → Bool
  | _, .none => true
  | _, .bool _ => true
  | _, .int _ => true
  | _, .str x => PyData.canLay0 (.str x) && decide (x.length ≤ 100)
  | k + 1, .list xs => decide (xs.length ≤ 400) && xs.all (fi k)
  | k + 1, .tuple xs => decide (xs.length ≤ 400) && xs.all (fi k)
  | _, _ => false
theorem fi_noD {k : Nat} {q : PyData} (h : fi k q = true) : noD q = true := by
  cases q with
  | dict l => cases k <;> cases h
  | _ => rfl
theorem fi_tup {k : Nat} {l : List PyData} (h : fi (k + 1) (.tuple l) = true) : l.length ≤ 400 ∧ ∀ x ∈ l, fi k x = true := by
  have h' : (decide (l.length ≤ 400) && l.all (fi k)) = true := h
  simp only [Bool.and_eq_true, decide_eq_true_eq, List.all_eq_true] at h'
  exact h'
theorem fi_lst {k : Nat} {l : List PyData} (h : fi (k + 1) (.list l) = true) : l.length ≤ 400 ∧ ∀ x ∈ l, fi k x = true := by
  have h' : (decide (l.length ≤ 400) && l.all (fi k)) = true := h
  simp only [Bool.and_eq_true, decide_eq_true_eq, List.all_eq_true] at h'
  exact h'
def WrongF (Φ : List D → Sto → R D) : Prop := ∀ {s : Sto} {q : PyData}, fi 4 q = true → Φ [.p q] s = .ok (.p (twrong q)) s
def bWrong (w pr en g8 g16 : Nat) : Ss := (.cons (.ifs (.orr (.nt (.isi (.v 0) .tuple)) (.cmp .ne (.bi .len false (.v 0)) (.k (.int 2)))) (.cons (.ret (.tup (.cons (.k (.str "town")) .nil))) .nil) .nil) (.cons (.asg (.tp [2, 3]) (.v 0)) (.cons (.ifs (.orr (.nt (.call w (.cons (.v 2) .nil))) (.nt (.chn .le .le (.k (.int 1)) (.v 2) (.g g8)))) (.cons (.ret (.tup (.cons (.k (.str "places")) .nil))) .nil) .nil) (.cons (.ifs (.orr (.nt (.isi (.v 3) .list)) (.nt (.chn .le .le (.k (.int 1)) (.bi .len false (.v 3)) (.g g16)))) (.cons (.ret (.tup (.cons (.k (.str "roads")) .nil))) .nil) .nil) (.cons (.for_ (.tp [4, 5]) (.enu (.v 3)) (.cons (.ifs (.orr (.nt (.call pr (.cons (.v 5) .nil))) (.orr (.cmp .lt (.bi .min false (.v 5)) (.k (.int 0))) (.cmp .ge (.bi .max false (.v 5)) (.v 2)))) (.cons (.ret (.tup (.cons (.k (.str "road")) (.cons (.v 4) .nil)))) .nil) .nil) .nil)) (.cons (.for_ (.nm 1) (.rng (.v 2)) (.cons (.ifs (.cmp .eq (.call en (.cons (.v 0) (.cons (.v 1) .nil))) (.lst false .nil)) (.cons (.ret (.tup (.cons (.k (.str "bare")) (.cons (.v 1) .nil)))) .nil) .nil) .nil)) (.cons (.ret (.k .none)) .nil)))))))
theorem mn2 {fl : Bool} {s : Sto} (a b : Int) : biop .min fl (.p (.tuple [.int a, .int b])) s = .ok (.p (.int (if b < a then b else a))) s := rfl
theorem mx2 {fl : Bool} {s : Sto} (a b : Int) : biop .max fl (.p (.tuple [.int a, .int b])) s = .ok (.p (.int (if a < b then b else a))) s := rfl
/-- the loop over the roads -/
theorem rs_pairs {many : Int} {rs : List PyData} (h : (List.range rs.length).find? (fun i => !roadOk many (rs.getD i .none)) = none) : rs = (rs.map unP).map prP := by
  rw [List.find?_eq_none] at h
  apply List.ext_getElem?
  intro i
  rw [List.getElem?_map, List.getElem?_map]
  by_cases hi : i < rs.length
  · have := h i (List.mem_range.mpr hi)
    rw [List.getD_eq_getElem?_getD, List.getElem?_eq_getElem hi] at this
    rw [List.getElem?_eq_getElem hi]
    generalize rs[i] = x at this
    simp only [Option.getD_some, Bool.not_eq_true', Bool.not_eq_false] at this
    match x, this with
    | .tuple [.int a, .int b], _ => rfl
  · rw [List.getElem?_eq_none (by omega)]
    rfl
theorem for_first {P : Pg} {e : Env} {s : Sto} {tg : Tg} {it : It} {b r : Ss} {items : List Item} {o : Option Nat} {v : Nat → D} {e' : Env} (h : evi P it e s = .ok items s) (hl : forL (fun x e1 s2 => bindS tg x s2 e1 fun e2 => exs P b e2 s2) items e s = fstR o v s (.nx e' s)) : exs P (.cons (.for_ tg it b) r) e s = fstR o v s (exs P r e' s) := by
  simp only [exs, exe, h, toS_ok, hl]
  cases o <;> rfl
theorem ends_lay : ∀ l : List (Nat × Nat), PyData.canLayAll0 (l.map enP) = true ∧ PyData.depthAll (l.map enP) ≤ 1
  | [] => ⟨rfl, Nat.zero_le _⟩
  | x :: l => by
    obtain ⟨h1, h2⟩ := ends_lay l
    simp only [List.map_cons, PyData.canLayAll0, PyData.depthAll, enP, PyData.canLay0, PyData.depth, h1, Bool.and_true, Nat.max_self]
    exact ⟨trivial, by omega⟩
theorem ends_shaped (l : List (Nat × Nat)) : SeqAt.shaped (.list (l.map enP)) = true := by
  obtain ⟨h1, h2⟩ := ends_lay l
  show (PyData.canLayAll0 (l.map enP) && decide (PyData.depthAll (l.map enP) + 1 ≤ 64)) = true
  rw [h1, decide_eq_true (by omega)]
  rfl
theorem eqv_nil (l : List PyData) : PyData.eqv (.list l) (.list []) = l.isEmpty := by cases l <;> rfl
theorem nil_shaped : SeqAt.shaped (.list []) = true := by decide
theorem wrong_run (P : Pg) {w pr en g8 g16 : Nat} (hw : WholeF (P.Φ w)) (hp : PairF (P.Φ pr)) (he : EndsF (P.Φ en)) (h8 : P.gl g8 = .int 8) (h16 : P.gl g16 = .int 16) : WrongF (fun args s => runB P ⟨1, 6, bWrong w pr en g8 g16, true⟩ args s) := by
  intro s q h
  refine run_pure ?_
  show exs P (bWrong w pr en g8 g16) [some (.p q), none, none, none, none, none] s = _
  have nd := fi_noD h
  unfold bWrong
  have notT : ∀ q : PyData, noD q = true → isT q = false → ev P (.orr (.nt (.isi (.v 0) .tuple)) (.cmp .ne (.bi .len false (.v 0)) (.k (.int 2)))) [some (.p q), none, none, none, none, none] s = .ok (.p (.bool true)) s := fun q nd z => by
    simp only [ev_v, ev_k, ev_g, ev_tup, ev_lst, ev_bin, ev_neg, ev_nt, ev_cmp, ev_chn, ev_an, ev_orr, ev_ife, ev_ix, ev_sl, ev_rev, ev_call, ev_bi, ev_isi, ev_isx, ev_app, ev_ins, ev_frz, ev_fld, evs_nil, evs_cons, evo_no, evo_so, G.R.bind_ok, rOr_some, vr_s, dInt_i, dBool_b, b_add, b_sub, b_pow18, b_pow9, c_lt, c_le, c_gt, c_ge, c_is, c_isn, List.getElem?_cons_succ, List.getElem?_cons_zero, List.set_cons_succ, List.set_cons_zero, brR_t, brR_f, isi_tuple nd, z, Bool.not_false]
  cases hq : isT q with
  | false =>
    rw [st_ifT (notT q nd hq), st_ret (by simp only [ev_v, ev_k, ev_g, ev_tup, ev_lst, ev_bin, ev_neg, ev_nt, ev_cmp, ev_chn, ev_an, ev_orr, ev_ife, ev_ix, ev_sl, ev_rev, ev_call, ev_bi, ev_isi, ev_isx, ev_app, ev_ins, ev_frz, ev_fld, evs_nil, evs_cons, evo_no, evo_so, G.R.bind_ok, rOr_some, vr_s, dInt_i, dBool_b, b_add, b_sub, b_pow18, b_pow9, c_lt, c_le, c_gt, c_ge, c_is, c_isn, List.getElem?_cons_succ, List.getElem?_cons_zero, List.set_cons_succ, List.set_cons_zero, brR_t, brR_f, mkT_1] <;> rfl), RS.nxt_rt]
    cases q <;> first | rfl | cases hq
  | true =>
    match q, hq with
    | .tuple l, _ =>
    obtain ⟨ll, lf⟩ := fi_tup h
    by_cases l2 : l.length = 2
    · match l, l2 with
      | [a, b], _ =>
      have fa := lf a (by simp)
      have fb := lf b (by simp)
      rw [st_ifF (by simp only [ev_v, ev_k, ev_g, ev_tup, ev_lst, ev_bin, ev_neg, ev_nt, ev_cmp, ev_chn, ev_an, ev_orr, ev_ife, ev_ix, ev_sl, ev_rev, ev_call, ev_bi, ev_isi, ev_isx, ev_app, ev_ins, ev_frz, ev_fld, evs_nil, evs_cons, evo_no, evo_so, G.R.bind_ok, rOr_some, vr_s, dInt_i, dBool_b, b_add, b_sub, b_pow18, b_pow9, c_lt, c_le, c_gt, c_ge, c_is, c_isn, List.getElem?_cons_succ, List.getElem?_cons_zero, List.set_cons_succ, List.set_cons_zero, brR_t, brR_f, isi_tuple nd, isT, Bool.not_true, l_len false (asSq_t [a, b]), ne_int, List.length_map] <;> rfl), st_nil, RS.nxt_nx]
      rw [st_asg (by simp only [ev_v, ev_k, ev_g, ev_tup, ev_lst, ev_bin, ev_neg, ev_nt, ev_cmp, ev_chn, ev_an, ev_orr, ev_ife, ev_ix, ev_sl, ev_rev, ev_call, ev_bi, ev_isi, ev_isx, ev_app, ev_ins, ev_frz, ev_fld, evs_nil, evs_cons, evo_no, evo_so, G.R.bind_ok, rOr_some, vr_s, dInt_i, dBool_b, b_add, b_sub, b_pow18, b_pow9, c_lt, c_le, c_gt, c_ge, c_is, c_isn, List.getElem?_cons_succ, List.getElem?_cons_zero, List.set_cons_succ, List.set_cons_zero, brR_t, brR_f] <;> rfl) (show bindT (.tp [2, 3]) (.one (.p (.tuple [a, b]))) s _ = some [some (.p (.tuple [a, b])), none, some (.p a), some (.p b), none, none] from rfl)]
      have nda := fi_noD fa
      have ndb := fi_noD fb
      -- places
      cases hi : isI a with
      | false =>
        rw [st_ifT (by simp only [ev_v, ev_k, ev_g, ev_tup, ev_lst, ev_bin, ev_neg, ev_nt, ev_cmp, ev_chn, ev_an, ev_orr, ev_ife, ev_ix, ev_sl, ev_rev, ev_call, ev_bi, ev_isi, ev_isx, ev_app, ev_ins, ev_frz, ev_fld, evs_nil, evs_cons, evo_no, evo_so, G.R.bind_ok, rOr_some, vr_s, dInt_i, dBool_b, b_add, b_sub, b_pow18, b_pow9, c_lt, c_le, c_gt, c_ge, c_is, c_isn, List.getElem?_cons_succ, List.getElem?_cons_zero, List.set_cons_succ, List.set_cons_zero, brR_t, brR_f, hw nda, hi, Bool.not_false] <;> rfl), st_ret (by simp only [ev_v, ev_k, ev_g, ev_tup, ev_lst, ev_bin, ev_neg, ev_nt, ev_cmp, ev_chn, ev_an, ev_orr, ev_ife, ev_ix, ev_sl, ev_rev, ev_call, ev_bi, ev_isi, ev_isx, ev_app, ev_ins, ev_frz, ev_fld, evs_nil, evs_cons, evo_no, evo_so, G.R.bind_ok, rOr_some, vr_s, dInt_i, dBool_b, b_add, b_sub, b_pow18, b_pow9, c_lt, c_le, c_gt, c_ge, c_is, c_isn, List.getElem?_cons_succ, List.getElem?_cons_zero, List.set_cons_succ, List.set_cons_zero, brR_t, brR_f, mkT_1] <;> rfl), RS.nxt_rt]
        cases a <;> first | rfl | cases hi
      | true =>
      match a, hi with
      | .int many, _ =>
      by_cases hm : 1 ≤ many ∧ many ≤ 8
      case neg =>
        have cnd : ev P (.orr (.nt (.call w (.cons (.v 2) .nil))) (.nt (.chn .le .le (.k (.int 1)) (.v 2) (.g g8)))) [some (.p (.tuple [.int many, b])), none, some (.p (.int many)), some (.p b), none, none] s = .ok (.p (.bool true)) s := by
          by_cases h1 : 1 ≤ many
          · have h2 : ¬ many ≤ 8 := fun z => hm ⟨h1, z⟩
            simp only [ev_v, ev_k, ev_g, ev_tup, ev_lst, ev_bin, ev_neg, ev_nt, ev_cmp, ev_chn, ev_an, ev_orr, ev_ife, ev_ix, ev_sl, ev_rev, ev_call, ev_bi, ev_isi, ev_isx, ev_app, ev_ins, ev_frz, ev_fld, evs_nil, evs_cons, evo_no, evo_so, G.R.bind_ok, rOr_some, vr_s, dInt_i, dBool_b, b_add, b_sub, b_pow18, b_pow9, c_lt, c_le, c_gt, c_ge, c_is, c_isn, List.getElem?_cons_succ, List.getElem?_cons_zero, List.set_cons_succ, List.set_cons_zero, brR_t, brR_f, hw nda, isI, Bool.not_true, Bool.not_false, h8, decide_eq_true h1, decide_eq_false h2]
          · simp only [ev_v, ev_k, ev_g, ev_tup, ev_lst, ev_bin, ev_neg, ev_nt, ev_cmp, ev_chn, ev_an, ev_orr, ev_ife, ev_ix, ev_sl, ev_rev, ev_call, ev_bi, ev_isi, ev_isx, ev_app, ev_ins, ev_frz, ev_fld, evs_nil, evs_cons, evo_no, evo_so, G.R.bind_ok, rOr_some, vr_s, dInt_i, dBool_b, b_add, b_sub, b_pow18, b_pow9, c_lt, c_le, c_gt, c_ge, c_is, c_isn, List.getElem?_cons_succ, List.getElem?_cons_zero, List.set_cons_succ, List.set_cons_zero, brR_t, brR_f, hw nda, isI, Bool.not_true, Bool.not_false, h8, decide_eq_false h1]
        rw [st_ifT cnd, st_ret (by simp only [ev_v, ev_k, ev_g, ev_tup, ev_lst, ev_bin, ev_neg, ev_nt, ev_cmp, ev_chn, ev_an, ev_orr, ev_ife, ev_ix, ev_sl, ev_rev, ev_call, ev_bi, ev_isi, ev_isx, ev_app, ev_ins, ev_frz, ev_fld, evs_nil, evs_cons, evo_no, evo_so, G.R.bind_ok, rOr_some, vr_s, dInt_i, dBool_b, b_add, b_sub, b_pow18, b_pow9, c_lt, c_le, c_gt, c_ge, c_is, c_isn, List.getElem?_cons_succ, List.getElem?_cons_zero, List.set_cons_succ, List.set_cons_zero, brR_t, brR_f, mkT_1] <;> rfl), RS.nxt_rt]
        show RS.rt (.p (t1 "places")) s = RS.rt (.p (twA (.int many) b)) s
        rw [twA_int, if_neg hm]
      rw [st_ifF (by simp only [ev_v, ev_k, ev_g, ev_tup, ev_lst, ev_bin, ev_neg, ev_nt, ev_cmp, ev_chn, ev_an, ev_orr, ev_ife, ev_ix, ev_sl, ev_rev, ev_call, ev_bi, ev_isi, ev_isx, ev_app, ev_ins, ev_frz, ev_fld, evs_nil, evs_cons, evo_no, evo_so, G.R.bind_ok, rOr_some, vr_s, dInt_i, dBool_b, b_add, b_sub, b_pow18, b_pow9, c_lt, c_le, c_gt, c_ge, c_is, c_isn, List.getElem?_cons_succ, List.getElem?_cons_zero, List.set_cons_succ, List.set_cons_zero, brR_t, brR_f, hw nda, isI, Bool.not_true, Bool.not_false, h8, decide_eq_true hm.1, decide_eq_true hm.2] <;> rfl), st_nil, RS.nxt_nx]
      have ht : twrong (.tuple [.int many, b]) = twB many b := by
        show twA (.int many) b = _
        rw [twA_int, if_pos hm]
      rw [ht]
      -- roads
      cases hl : isL b with
      | false =>
        rw [st_ifT (by simp only [ev_v, ev_k, ev_g, ev_tup, ev_lst, ev_bin, ev_neg, ev_nt, ev_cmp, ev_chn, ev_an, ev_orr, ev_ife, ev_ix, ev_sl, ev_rev, ev_call, ev_bi, ev_isi, ev_isx, ev_app, ev_ins, ev_frz, ev_fld, evs_nil, evs_cons, evo_no, evo_so, G.R.bind_ok, rOr_some, vr_s, dInt_i, dBool_b, b_add, b_sub, b_pow18, b_pow9, c_lt, c_le, c_gt, c_ge, c_is, c_isn, List.getElem?_cons_succ, List.getElem?_cons_zero, List.set_cons_succ, List.set_cons_zero, brR_t, brR_f, isi_list ndb, hl, Bool.not_false] <;> rfl), st_ret (by simp only [ev_v, ev_k, ev_g, ev_tup, ev_lst, ev_bin, ev_neg, ev_nt, ev_cmp, ev_chn, ev_an, ev_orr, ev_ife, ev_ix, ev_sl, ev_rev, ev_call, ev_bi, ev_isi, ev_isx, ev_app, ev_ins, ev_frz, ev_fld, evs_nil, evs_cons, evo_no, evo_so, G.R.bind_ok, rOr_some, vr_s, dInt_i, dBool_b, b_add, b_sub, b_pow18, b_pow9, c_lt, c_le, c_gt, c_ge, c_is, c_isn, List.getElem?_cons_succ, List.getElem?_cons_zero, List.set_cons_succ, List.set_cons_zero, brR_t, brR_f, mkT_1] <;> rfl), RS.nxt_rt]
        cases b <;> first | rfl | cases hl
      | true =>
      match b, hl with
      | .list rs, _ =>
      obtain ⟨rl, rf⟩ := fi_lst fb
      by_cases hr : 1 ≤ rs.length ∧ rs.length ≤ 16
      case neg =>
        have cnd : ev P (.orr (.nt (.isi (.v 3) .list)) (.nt (.chn .le .le (.k (.int 1)) (.bi .len false (.v 3)) (.g g16)))) [some (.p (.tuple [.int many, .list rs])), none, some (.p (.int many)), some (.p (.list rs)), none, none] s = .ok (.p (.bool true)) s := by
          by_cases h1 : (1 : Int) ≤ (rs.length : Int)
          · have h2 : ¬ (rs.length : Int) ≤ 16 := fun z => hr ⟨by omega, by omega⟩
            simp only [ev_v, ev_k, ev_g, ev_tup, ev_lst, ev_bin, ev_neg, ev_nt, ev_cmp, ev_chn, ev_an, ev_orr, ev_ife, ev_ix, ev_sl, ev_rev, ev_call, ev_bi, ev_isi, ev_isx, ev_app, ev_ins, ev_frz, ev_fld, evs_nil, evs_cons, evo_no, evo_so, G.R.bind_ok, rOr_some, vr_s, dInt_i, dBool_b, b_add, b_sub, b_pow18, b_pow9, c_lt, c_le, c_gt, c_ge, c_is, c_isn, List.getElem?_cons_succ, List.getElem?_cons_zero, List.set_cons_succ, List.set_cons_zero, brR_t, brR_f, isi_list ndb, isL, Bool.not_true, Bool.not_false, h16, l_len false (asSq_l rs), List.length_map, decide_eq_true h1, decide_eq_false h2]
          · simp only [ev_v, ev_k, ev_g, ev_tup, ev_lst, ev_bin, ev_neg, ev_nt, ev_cmp, ev_chn, ev_an, ev_orr, ev_ife, ev_ix, ev_sl, ev_rev, ev_call, ev_bi, ev_isi, ev_isx, ev_app, ev_ins, ev_frz, ev_fld, evs_nil, evs_cons, evo_no, evo_so, G.R.bind_ok, rOr_some, vr_s, dInt_i, dBool_b, b_add, b_sub, b_pow18, b_pow9, c_lt, c_le, c_gt, c_ge, c_is, c_isn, List.getElem?_cons_succ, List.getElem?_cons_zero, List.set_cons_succ, List.set_cons_zero, brR_t, brR_f, isi_list ndb, isL, Bool.not_true, Bool.not_false, h16, l_len false (asSq_l rs), List.length_map, decide_eq_false h1]
        rw [st_ifT cnd, st_ret (by simp only [ev_v, ev_k, ev_g, ev_tup, ev_lst, ev_bin, ev_neg, ev_nt, ev_cmp, ev_chn, ev_an, ev_orr, ev_ife, ev_ix, ev_sl, ev_rev, ev_call, ev_bi, ev_isi, ev_isx, ev_app, ev_ins, ev_frz, ev_fld, evs_nil, evs_cons, evo_no, evo_so, G.R.bind_ok, rOr_some, vr_s, dInt_i, dBool_b, b_add, b_sub, b_pow18, b_pow9, c_lt, c_le, c_gt, c_ge, c_is, c_isn, List.getElem?_cons_succ, List.getElem?_cons_zero, List.set_cons_succ, List.set_cons_zero, brR_t, brR_f, mkT_1] <;> rfl), RS.nxt_rt]
        show RS.rt (.p (t1 "roads")) s = RS.rt (.p (twB many (.list rs))) s
        rw [twB_list, if_neg hr]
      rw [st_ifF (by simp only [ev_v, ev_k, ev_g, ev_tup, ev_lst, ev_bin, ev_neg, ev_nt, ev_cmp, ev_chn, ev_an, ev_orr, ev_ife, ev_ix, ev_sl, ev_rev, ev_call, ev_bi, ev_isi, ev_isx, ev_app, ev_ins, ev_frz, ev_fld, evs_nil, evs_cons, evo_no, evo_so, G.R.bind_ok, rOr_some, vr_s, dInt_i, dBool_b, b_add, b_sub, b_pow18, b_pow9, c_lt, c_le, c_gt, c_ge, c_is, c_isn, List.getElem?_cons_succ, List.getElem?_cons_zero, List.set_cons_succ, List.set_cons_zero, brR_t, brR_f, isi_list ndb, isL, Bool.not_true, Bool.not_false, h16, l_len false (asSq_l rs), List.length_map, decide_eq_true (show (1 : Int) ≤ (rs.length : Int) by omega), decide_eq_true (show (rs.length : Int) ≤ 16 by omega)] <;> rfl), st_nil, RS.nxt_nx]
      have ht2 : twB many (.list rs) = twR many rs := by
        rw [twB_list, if_pos hr]
      rw [ht2]
      -- each road
      have cnd : ∀ (x : PyData) (z4 : Option D), fi 2 x = true → ev P (.orr (.nt (.call pr (.cons (.v 5) .nil))) (.orr (.cmp .lt (.bi .min false (.v 5)) (.k (.int 0))) (.cmp .ge (.bi .max false (.v 5)) (.v 2)))) [some (.p (.tuple [.int many, .list rs])), none, some (.p (.int many)), some (.p (.list rs)), z4, some (.p x)] s = .ok (.p (.bool (!roadOk many x))) s := by
        intro x z4 fx
        have ndx := fi_noD fx
        have hpp := hp (s := s) ndx (fun l e => by subst e; obtain ⟨k1, k2⟩ := fi_tup fx; exact ⟨by omega, fun y hy => fi_noD (k2 y hy)⟩)
        cases hx : isP x with
        | false =>
          have : roadOk many x = false := by
            unfold isP at hx
            unfold roadOk
            split at hx
            · cases hx
            · rename_i hno
              first
              | rfl
              | (split
                 · exact (hno _ _ rfl).elim
                 · rfl)
          simp only [ev_v, ev_k, ev_g, ev_tup, ev_lst, ev_bin, ev_neg, ev_nt, ev_cmp, ev_chn, ev_an, ev_orr, ev_ife, ev_ix, ev_sl, ev_rev, ev_call, ev_bi, ev_isi, ev_isx, ev_app, ev_ins, ev_frz, ev_fld, evs_nil, evs_cons, evo_no, evo_so, G.R.bind_ok, rOr_some, vr_s, dInt_i, dBool_b, b_add, b_sub, b_pow18, b_pow9, c_lt, c_le, c_gt, c_ge, c_is, c_isn, List.getElem?_cons_succ, List.getElem?_cons_zero, List.set_cons_succ, List.set_cons_zero, brR_t, brR_f, hpp, hx, this, Bool.not_false]
        | true =>
          unfold isP at hx
          split at hx
          · rename_i u v
            have e1 : (!roadOk many (.tuple [.int u, .int v])) = (decide ((if v < u then v else u) < 0) || decide (many ≤ (if u < v then v else u))) := by
              unfold roadOk
              by_cases q : u < v
              · have q2 : ¬ v < u := by omega
                rw [if_pos q, if_neg q2]
                by_cases a1 : u < 0 <;> by_cases a2 : many ≤ v <;> simp [a1, a2] <;> omega
              · rw [if_neg q]
                by_cases q2 : v < u
                · rw [if_pos q2]
                  by_cases a1 : v < 0 <;> by_cases a2 : many ≤ u <;> simp [a1, a2] <;> omega
                · rw [if_neg q2]
                  by_cases a1 : u < 0 <;> by_cases a2 : many ≤ u <;> simp [a1, a2] <;> omega
            rw [e1]
            simp only [ev_v, ev_k, ev_g, ev_tup, ev_lst, ev_bin, ev_neg, ev_nt, ev_cmp, ev_chn, ev_an, ev_orr, ev_ife, ev_ix, ev_sl, ev_rev, ev_call, ev_bi, ev_isi, ev_isx, ev_app, ev_ins, ev_frz, ev_fld, evs_nil, evs_cons, evo_no, evo_so, G.R.bind_ok, rOr_some, vr_s, dInt_i, dBool_b, b_add, b_sub, b_pow18, b_pow9, c_lt, c_le, c_gt, c_ge, c_is, c_isn, List.getElem?_cons_succ, List.getElem?_cons_zero, List.set_cons_succ, List.set_cons_zero, brR_t, brR_f, hpp, isP, Bool.not_true, mn2, mx2]
            rw [brR_b]
            by_cases a1 : (if v < u then v else u) < 0
            · rw [if_pos (decide_eq_true a1), decide_eq_true a1]; rfl
            · rw [if_neg (by simpa using a1), decide_eq_false a1]; rfl
          · cases hx
      obtain ⟨e', ⟨z4, z5, rfl⟩, hf⟩ := forL_first (f := fun x e1 s2 => bindS (.tp [4, 5]) x s2 e1 fun e2 => exs P (.cons (.ifs (.orr (.nt (.call pr (.cons (.v 5) .nil))) (.orr (.cmp .lt (.bi .min false (.v 5)) (.k (.int 0))) (.cmp .ge (.bi .max false (.v 5)) (.v 2)))) (.cons (.ret (.tup (.cons (.k (.str "road")) (.cons (.v 4) .nil)))) .nil) .nil) .nil) e2 s2)
        (items := enumI 0 (rs.map D.p)) (s := s) (fun i => !roadOk many (rs.getD i .none)) (fun i => .p (t2 "road" i)) (fun e => ∃ z4 z5, e = [some (.p (.tuple [.int many, .list rs])), none, some (.p (.int many)), some (.p (.list rs)), z4, z5]) (by
          rintro i x e hx ⟨z4, z5, rfl⟩
          rw [enumI_get, List.getElem?_map] at hx
          cases q : rs[i]? with
          | none => rw [q] at hx; cases hx
          | some y =>
            rw [q] at hx
            cases hx
            have fy := rf y (List.mem_of_getElem? q)
            have hy : rs.getD i .none = y := by rw [List.getD_eq_getElem?_getD, q]; rfl
            rw [hy]
            have c1 := cnd y (some (.p (.int ((0 + i : Nat) : Int)))) fy
            constructor
            · intro hb
              rw [hb] at c1
              show exs P _ [some (.p (.tuple [.int many, .list rs])), none, some (.p (.int many)), some (.p (.list rs)), some (.p (.int ((0 + i : Nat) : Int))), some (.p y)] s = _
              rw [st_ifT c1, st_ret (by simp only [ev_v, ev_k, ev_g, ev_tup, ev_lst, ev_bin, ev_neg, ev_nt, ev_cmp, ev_chn, ev_an, ev_orr, ev_ife, ev_ix, ev_sl, ev_rev, ev_call, ev_bi, ev_isi, ev_isx, ev_app, ev_ins, ev_frz, ev_fld, evs_nil, evs_cons, evo_no, evo_so, G.R.bind_ok, rOr_some, vr_s, dInt_i, dBool_b, b_add, b_sub, b_pow18, b_pow9, c_lt, c_le, c_gt, c_ge, c_is, c_isn, List.getElem?_cons_succ, List.getElem?_cons_zero, List.set_cons_succ, List.set_cons_zero, brR_t, brR_f, mkT_2] <;> rfl), RS.nxt_rt, Nat.zero_add]
              rfl
            · intro hb
              rw [hb] at c1
              refine ⟨_, ?_, some (.p (.int ((0 + i : Nat) : Int))), some (.p y), rfl⟩
              show exs P _ [some (.p (.tuple [.int many, .list rs])), none, some (.p (.int many)), some (.p (.list rs)), some (.p (.int ((0 + i : Nat) : Int))), some (.p y)] s = _
              rw [st_ifF c1, st_nil, RS.nxt_nx, st_nil]) (e := [some (.p (.tuple [.int many, .list rs])), none, some (.p (.int many)), some (.p (.list rs)), none, none]) ⟨_, _, rfl⟩
      rw [enumI_len, List.length_map] at hf
      have hev : evi P (.enu (.v 3)) [some (.p (.tuple [.int many, .list rs])), none, some (.p (.int many)), some (.p (.list rs)), none, none] s = .ok (enumI 0 (rs.map D.p)) s := by
        simp only [evi]
        simp only [ev_v, ev_k, ev_g, ev_tup, ev_lst, ev_bin, ev_neg, ev_nt, ev_cmp, ev_chn, ev_an, ev_orr, ev_ife, ev_ix, ev_sl, ev_rev, ev_call, ev_bi, ev_isi, ev_isx, ev_app, ev_ins, ev_frz, ev_fld, evs_nil, evs_cons, evo_no, evo_so, G.R.bind_ok, rOr_some, vr_s, dInt_i, dBool_b, b_add, b_sub, b_pow18, b_pow9, c_lt, c_le, c_gt, c_ge, c_is, c_isn, List.getElem?_cons_succ, List.getElem?_cons_zero, List.set_cons_succ, List.set_cons_zero, brR_t, brR_f]
      rw [for_first hev hf]
      unfold twR
      cases hfi : (List.range rs.length).find? (fun i => !roadOk many (rs.getD i .none)) with
      | some i => rfl
      | none =>
      show exs P _ _ s = _
      dsimp only
      -- each place
      have hrs := rs_pairs hfi
      have htw : (PyData.tuple [.int many, .list rs]) = townP many (rs.map unP) := by
        unfold townP
        rw [← hrs]
      obtain ⟨e', ⟨y1, rfl⟩, hf⟩ := forL_first (f := fun x e1 s2 => bindS (.nm 1) x s2 e1 fun e2 => exs P (.cons (.ifs (.cmp .eq (.call en (.cons (.v 0) (.cons (.v 1) .nil))) (.lst false .nil)) (.cons (.ret (.tup (.cons (.k (.str "bare")) (.cons (.v 1) .nil)))) .nil) .nil) .nil) e2 s2)
        (items := (List.range many.toNat).map fun (k : Nat) => Item.one (.p (.int (k : Int)))) (s := s) (fun v => (ends (rs.map unP) (v : Int)).isEmpty) (fun i => .p (t2 "bare" i)) (fun e => ∃ y1, e = [some (.p (.tuple [.int many, .list rs])), y1, some (.p (.int many)), some (.p (.list rs)), z4, z5]) (by
          rintro i x e hx ⟨y1, rfl⟩
          obtain ⟨hi, rfl⟩ := rng_get hx
          have c1 : ev P (.cmp .eq (.call en (.cons (.v 0) (.cons (.v 1) .nil))) (.lst false .nil)) [some (.p (.tuple [.int many, .list rs])), some (.p (.int (i : Int))), some (.p (.int many)), some (.p (.list rs)), z4, z5] s = .ok (.p (.bool (ends (rs.map unP) (i : Int)).isEmpty)) s := by
            have hee := he (s := s) (many := many) (v := (i : Int)) (ls := rs.map unP) (by rw [List.length_map]; omega)
            rw [← htw] at hee
            simp only [ev_v, ev_k, ev_g, ev_tup, ev_lst, ev_bin, ev_neg, ev_nt, ev_cmp, ev_chn, ev_an, ev_orr, ev_ife, ev_ix, ev_sl, ev_rev, ev_call, ev_bi, ev_isi, ev_isx, ev_app, ev_ins, ev_frz, ev_fld, evs_nil, evs_cons, evo_no, evo_so, G.R.bind_ok, rOr_some, vr_s, dInt_i, dBool_b, b_add, b_sub, b_pow18, b_pow9, c_lt, c_le, c_gt, c_ge, c_is, c_isn, List.getElem?_cons_succ, List.getElem?_cons_zero, List.set_cons_succ, List.set_cons_zero, brR_t, brR_f, hee, mkL_0, eq_p (ends_shaped _) nil_shaped, eqv_nil, List.isEmpty_map]
          constructor
          · intro hb
            rw [hb] at c1
            show exs P _ [some (.p (.tuple [.int many, .list rs])), some (.p (.int (i : Int))), some (.p (.int many)), some (.p (.list rs)), z4, z5] s = _
            rw [st_ifT c1, st_ret (by simp only [ev_v, ev_k, ev_g, ev_tup, ev_lst, ev_bin, ev_neg, ev_nt, ev_cmp, ev_chn, ev_an, ev_orr, ev_ife, ev_ix, ev_sl, ev_rev, ev_call, ev_bi, ev_isi, ev_isx, ev_app, ev_ins, ev_frz, ev_fld, evs_nil, evs_cons, evo_no, evo_so, G.R.bind_ok, rOr_some, vr_s, dInt_i, dBool_b, b_add, b_sub, b_pow18, b_pow9, c_lt, c_le, c_gt, c_ge, c_is, c_isn, List.getElem?_cons_succ, List.getElem?_cons_zero, List.set_cons_succ, List.set_cons_zero, brR_t, brR_f, mkT_2] <;> rfl), RS.nxt_rt]
            rfl
          · intro hb
            rw [hb] at c1
            refine ⟨_, ?_, some (.p (.int (i : Int))), rfl⟩
            show exs P _ [some (.p (.tuple [.int many, .list rs])), some (.p (.int (i : Int))), some (.p (.int many)), some (.p (.list rs)), z4, z5] s = _
            rw [st_ifF c1, st_nil, RS.nxt_nx, st_nil]) (e := [some (.p (.tuple [.int many, .list rs])), none, some (.p (.int many)), some (.p (.list rs)), z4, z5]) ⟨_, rfl⟩
      rw [List.length_map, List.length_range] at hf
      rw [for_first (r_rng (by simp only [ev_v, ev_k, ev_g, ev_tup, ev_lst, ev_bin, ev_neg, ev_nt, ev_cmp, ev_chn, ev_an, ev_orr, ev_ife, ev_ix, ev_sl, ev_rev, ev_call, ev_bi, ev_isi, ev_isx, ev_app, ev_ins, ev_frz, ev_fld, evs_nil, evs_cons, evo_no, evo_so, G.R.bind_ok, rOr_some, vr_s, dInt_i, dBool_b, b_add, b_sub, b_pow18, b_pow9, c_lt, c_le, c_gt, c_ge, c_is, c_isn, List.getElem?_cons_succ, List.getElem?_cons_zero, List.set_cons_succ, List.set_cons_zero, brR_t, brR_f] <;> rfl) (by omega) (by omega)) hf]
      cases (List.range many.toNat).find? (fun (v : Nat) => (ends (rs.map unP) (v : Int)).isEmpty) with
      | some i => rfl
      | none =>
        show exs P _ _ s = _
        rw [st_ret (by simp only [ev_v, ev_k, ev_g, ev_tup, ev_lst, ev_bin, ev_neg, ev_nt, ev_cmp, ev_chn, ev_an, ev_orr, ev_ife, ev_ix, ev_sl, ev_rev, ev_call, ev_bi, ev_isi, ev_isx, ev_app, ev_ins, ev_frz, ev_fld, evs_nil, evs_cons, evo_no, evo_so, G.R.bind_ok, rOr_some, vr_s, dInt_i, dBool_b, b_add, b_sub, b_pow18, b_pow9, c_lt, c_le, c_gt, c_ge, c_is, c_isn, List.getElem?_cons_succ, List.getElem?_cons_zero, List.set_cons_succ, List.set_cons_zero, brR_t, brR_f] <;> rfl)]
    · rw [st_ifT (by simp only [ev_v, ev_k, ev_g, ev_tup, ev_lst, ev_bin, ev_neg, ev_nt, ev_cmp, ev_chn, ev_an, ev_orr, ev_ife, ev_ix, ev_sl, ev_rev, ev_call, ev_bi, ev_isi, ev_isx, ev_app, ev_ins, ev_frz, ev_fld, evs_nil, evs_cons, evo_no, evo_so, G.R.bind_ok, rOr_some, vr_s, dInt_i, dBool_b, b_add, b_sub, b_pow18, b_pow9, c_lt, c_le, c_gt, c_ge, c_is, c_isn, List.getElem?_cons_succ, List.getElem?_cons_zero, List.set_cons_succ, List.set_cons_zero, brR_t, brR_f, isi_tuple nd, isT, Bool.not_true, l_len false (asSq_t l), ne_int, List.length_map, show (!((l.length : Int) == 2)) = true from by simp; omega] <;> rfl), st_ret (by simp only [ev_v, ev_k, ev_g, ev_tup, ev_lst, ev_bin, ev_neg, ev_nt, ev_cmp, ev_chn, ev_an, ev_orr, ev_ife, ev_ix, ev_sl, ev_rev, ev_call, ev_bi, ev_isi, ev_isx, ev_app, ev_ins, ev_frz, ev_fld, evs_nil, evs_cons, evo_no, evo_so, G.R.bind_ok, rOr_some, vr_s, dInt_i, dBool_b, b_add, b_sub, b_pow18, b_pow9, c_lt, c_le, c_gt, c_ge, c_is, c_isn, List.getElem?_cons_succ, List.getElem?_cons_zero, List.set_cons_succ, List.set_cons_zero, brR_t, brR_f, mkT_1] <;> rfl), RS.nxt_rt]
      match l, l2 with
      | [], _ => rfl
      | [a], _ => rfl
      | a :: b :: c :: l, _ => rfl
end
end G

namespace G
open PySem PySem.Spec PyProof.Rows L2
open Classical
noncomputable section
/-! ### the law's own look at a town -/
def bDue (w en : Nat) : Ss := (.cons (.ifs (.orr (.nt (.isi (.v 0) .tuple)) (.cmp .ne (.bi .len false (.v 0)) (.k (.int 2)))) (.cons (.ret (.tup (.cons (.k (.str "town")) .nil))) .nil) .nil) (.cons (.asg (.tp [3, 4]) (.v 0)) (.cons (.ifs (.orr (.nt (.call w (.cons (.v 3) .nil))) (.orr (.cmp .lt (.v 3) (.k (.int 1))) (.cmp .gt (.v 3) (.k (.int 8))))) (.cons (.ret (.tup (.cons (.k (.str "places")) .nil))) .nil) .nil) (.cons (.ifs (.orr (.nt (.isi (.v 4) .list)) (.orr (.cmp .lt (.bi .len false (.v 4)) (.k (.int 1))) (.cmp .gt (.bi .len false (.v 4)) (.k (.int 16))))) (.cons (.ret (.tup (.cons (.k (.str "roads")) .nil))) .nil) .nil) (.cons (.for_ (.nm 1) (.rng (.bi .len false (.v 4))) (.cons (.asg (.nm 5) (.ix (.v 4) (.v 1))) (.cons (.ifs (.orr (.nt (.isi (.v 5) .tuple)) (.orr (.cmp .ne (.bi .len false (.v 5)) (.k (.int 2))) (.cmp .ne (.lc false (.v 2) [2] (.nm 2) (.seq (.v 5)) (.so (.nt (.call w (.cons (.v 2) .nil))))) (.lst false .nil)))) (.cons (.ret (.tup (.cons (.k (.str "road")) (.cons (.v 1) .nil)))) .nil) .nil) (.cons (.ifs (.orr (.cmp .lt (.bi .min false (.v 5)) (.k (.int 0))) (.cmp .ge (.bi .max false (.v 5)) (.v 3))) (.cons (.ret (.tup (.cons (.k (.str "road")) (.cons (.v 1) .nil)))) .nil) .nil) .nil)))) (.cons (.for_ (.nm 2) (.rng (.v 3)) (.cons (.ifs (.cmp .eq (.call en (.cons (.v 0) (.cons (.v 2) .nil))) (.lst false .nil)) (.cons (.ret (.tup (.cons (.k (.str "bare")) (.cons (.v 2) .nil)))) .nil) .nil) .nil)) (.cons (.ret (.k .none)) .nil)))))))
theorem fiL_lay : ∀ (k : Nat) (q : PyData), fi k q = true → PyData.canLay0 q = true ∧ q.depth ≤ k
  | k, .none, _ => ⟨rfl, Nat.zero_le _⟩
  | k, .bool b, _ => ⟨rfl, Nat.zero_le _⟩
  | k, .int b, _ => ⟨rfl, Nat.zero_le _⟩
  | k, .str x, h => by
    have h' : (PyData.canLay0 (.str x) && decide (x.length ≤ 100)) = true := by cases k <;> exact h
    exact ⟨(Bool.and_eq_true_iff.mp h').1, Nat.zero_le _⟩
  | k + 1, .list l, h => by
    obtain ⟨_, h2⟩ := fi_lst h
    have : ∀ l : List PyData, (∀ x ∈ l, fi k x = true) → PyData.canLayAll0 l = true ∧ PyData.depthAll l ≤ k := by
      intro l
      induction l with
      | nil => exact fun _ => ⟨rfl, Nat.zero_le _⟩
      | cons x l ih =>
        intro hx
        obtain ⟨a1, a2⟩ := fiL_lay k x (hx x List.mem_cons_self)
        obtain ⟨b1, b2⟩ := ih fun y hy => hx y (List.mem_cons_of_mem _ hy)
        refine ⟨?_, ?_⟩
        · show (PyData.canLay0 x && PyData.canLayAll0 l) = true
          rw [a1, b1]; rfl
        · show max x.depth (PyData.depthAll l) ≤ k
          omega
    obtain ⟨a1, a2⟩ := this l h2
    exact ⟨a1, show PyData.depthAll l + 1 ≤ k + 1 by omega⟩
  | k + 1, .tuple l, h => by
    obtain ⟨_, h2⟩ := fi_tup h
    have : ∀ l : List PyData, (∀ x ∈ l, fi k x = true) → PyData.canLayAll0 l = true ∧ PyData.depthAll l ≤ k := by
      intro l
      induction l with
      | nil => exact fun _ => ⟨rfl, Nat.zero_le _⟩
      | cons x l ih =>
        intro hx
        obtain ⟨a1, a2⟩ := fiL_lay k x (hx x List.mem_cons_self)
        obtain ⟨b1, b2⟩ := ih fun y hy => hx y (List.mem_cons_of_mem _ hy)
        refine ⟨?_, ?_⟩
        · show (PyData.canLay0 x && PyData.canLayAll0 l) = true
          rw [a1, b1]; rfl
        · show max x.depth (PyData.depthAll l) ≤ k
          omega
    obtain ⟨a1, a2⟩ := this l h2
    exact ⟨a1, show PyData.depthAll l + 1 ≤ k + 1 by omega⟩
  | 0, .list l, h => by cases h
  | 0, .tuple l, h => by cases h
  | k, .dict l, h => by cases k <;> cases h
theorem fi_sh {k : Nat} {q : PyData} (hk : k ≤ 60) (h : fi k q = true) : SeqAt.shaped q = true := by
  obtain ⟨h1, h2⟩ := fiL_lay k q h
  show (PyData.canLay0 q && decide (q.depth ≤ 64)) = true
  rw [h1, decide_eq_true (by omega)]
  rfl
theorem fi_all {k : Nat} {l : List PyData} (h1 : l.length ≤ 400) (h2 : ∀ x ∈ l, fi k x = true) : fi (k + 1) (.list l) = true := by
  show (decide (l.length ≤ 400) && l.all (fi k)) = true
  rw [decide_eq_true h1, List.all_eq_true.mpr h2]
  rfl
theorem due_run (P : Pg) {w en : Nat} (hw : WholeF (P.Φ w)) (he : EndsF (P.Φ en)) : WrongF (fun args s => runB P ⟨1, 6, bDue w en, true⟩ args s) := by
  intro s q h
  refine run_pure ?_
  show exs P (bDue w en) [some (.p q), none, none, none, none, none] s = _
  have nd := fi_noD h
  unfold bDue
  have notT : ∀ q : PyData, noD q = true → isT q = false → ev P (.orr (.nt (.isi (.v 0) .tuple)) (.cmp .ne (.bi .len false (.v 0)) (.k (.int 2)))) [some (.p q), none, none, none, none, none] s = .ok (.p (.bool true)) s := fun q nd z => by
    simp only [ev_v, ev_k, ev_g, ev_tup, ev_lst, ev_bin, ev_neg, ev_nt, ev_cmp, ev_chn, ev_an, ev_orr, ev_ife, ev_ix, ev_sl, ev_rev, ev_call, ev_bi, ev_isi, ev_isx, ev_app, ev_ins, ev_frz, ev_fld, evs_nil, evs_cons, evo_no, evo_so, G.R.bind_ok, rOr_some, vr_s, dInt_i, dBool_b, b_add, b_sub, b_pow18, b_pow9, c_lt, c_le, c_gt, c_ge, c_is, c_isn, List.getElem?_cons_succ, List.getElem?_cons_zero, List.set_cons_succ, List.set_cons_zero, brR_t, brR_f, isi_tuple nd, z, Bool.not_false]
  cases hq : isT q with
  | false =>
    rw [st_ifT (notT q nd hq), st_ret (by simp only [ev_v, ev_k, ev_g, ev_tup, ev_lst, ev_bin, ev_neg, ev_nt, ev_cmp, ev_chn, ev_an, ev_orr, ev_ife, ev_ix, ev_sl, ev_rev, ev_call, ev_bi, ev_isi, ev_isx, ev_app, ev_ins, ev_frz, ev_fld, evs_nil, evs_cons, evo_no, evo_so, G.R.bind_ok, rOr_some, vr_s, dInt_i, dBool_b, b_add, b_sub, b_pow18, b_pow9, c_lt, c_le, c_gt, c_ge, c_is, c_isn, List.getElem?_cons_succ, List.getElem?_cons_zero, List.set_cons_succ, List.set_cons_zero, brR_t, brR_f, mkT_1] <;> rfl), RS.nxt_rt]
    cases q <;> first | rfl | cases hq
  | true =>
    match q, hq with
    | .tuple l, _ =>
    obtain ⟨ll, lf⟩ := fi_tup h
    by_cases l2 : l.length = 2
    · match l, l2 with
      | [a, b], _ =>
      have fa := lf a (by simp)
      have fb := lf b (by simp)
      rw [st_ifF (by simp only [ev_v, ev_k, ev_g, ev_tup, ev_lst, ev_bin, ev_neg, ev_nt, ev_cmp, ev_chn, ev_an, ev_orr, ev_ife, ev_ix, ev_sl, ev_rev, ev_call, ev_bi, ev_isi, ev_isx, ev_app, ev_ins, ev_frz, ev_fld, evs_nil, evs_cons, evo_no, evo_so, G.R.bind_ok, rOr_some, vr_s, dInt_i, dBool_b, b_add, b_sub, b_pow18, b_pow9, c_lt, c_le, c_gt, c_ge, c_is, c_isn, List.getElem?_cons_succ, List.getElem?_cons_zero, List.set_cons_succ, List.set_cons_zero, brR_t, brR_f, isi_tuple nd, isT, Bool.not_true, l_len false (asSq_t [a, b]), ne_int, List.length_map] <;> rfl), st_nil, RS.nxt_nx]
      rw [st_asg (by simp only [ev_v, ev_k, ev_g, ev_tup, ev_lst, ev_bin, ev_neg, ev_nt, ev_cmp, ev_chn, ev_an, ev_orr, ev_ife, ev_ix, ev_sl, ev_rev, ev_call, ev_bi, ev_isi, ev_isx, ev_app, ev_ins, ev_frz, ev_fld, evs_nil, evs_cons, evo_no, evo_so, G.R.bind_ok, rOr_some, vr_s, dInt_i, dBool_b, b_add, b_sub, b_pow18, b_pow9, c_lt, c_le, c_gt, c_ge, c_is, c_isn, List.getElem?_cons_succ, List.getElem?_cons_zero, List.set_cons_succ, List.set_cons_zero, brR_t, brR_f] <;> rfl) (show bindT (.tp [3, 4]) (.one (.p (.tuple [a, b]))) s _ = some [some (.p (.tuple [a, b])), none, none, some (.p a), some (.p b), none] from rfl)]
      have nda := fi_noD fa
      have ndb := fi_noD fb
      cases hi : isI a with
      | false =>
        rw [st_ifT (by simp only [ev_v, ev_k, ev_g, ev_tup, ev_lst, ev_bin, ev_neg, ev_nt, ev_cmp, ev_chn, ev_an, ev_orr, ev_ife, ev_ix, ev_sl, ev_rev, ev_call, ev_bi, ev_isi, ev_isx, ev_app, ev_ins, ev_frz, ev_fld, evs_nil, evs_cons, evo_no, evo_so, G.R.bind_ok, rOr_some, vr_s, dInt_i, dBool_b, b_add, b_sub, b_pow18, b_pow9, c_lt, c_le, c_gt, c_ge, c_is, c_isn, List.getElem?_cons_succ, List.getElem?_cons_zero, List.set_cons_succ, List.set_cons_zero, brR_t, brR_f, hw nda, hi, Bool.not_false] <;> rfl), st_ret (by simp only [ev_v, ev_k, ev_g, ev_tup, ev_lst, ev_bin, ev_neg, ev_nt, ev_cmp, ev_chn, ev_an, ev_orr, ev_ife, ev_ix, ev_sl, ev_rev, ev_call, ev_bi, ev_isi, ev_isx, ev_app, ev_ins, ev_frz, ev_fld, evs_nil, evs_cons, evo_no, evo_so, G.R.bind_ok, rOr_some, vr_s, dInt_i, dBool_b, b_add, b_sub, b_pow18, b_pow9, c_lt, c_le, c_gt, c_ge, c_is, c_isn, List.getElem?_cons_succ, List.getElem?_cons_zero, List.set_cons_succ, List.set_cons_zero, brR_t, brR_f, mkT_1] <;> rfl), RS.nxt_rt]
        cases a <;> first | rfl | cases hi
      | true =>
      match a, hi with
      | .int many, _ =>
      by_cases hm : 1 ≤ many ∧ many ≤ 8
      case neg =>
        have cnd : ev P (.orr (.nt (.call w (.cons (.v 3) .nil))) (.orr (.cmp .lt (.v 3) (.k (.int 1))) (.cmp .gt (.v 3) (.k (.int 8))))) [some (.p (.tuple [.int many, b])), none, none, some (.p (.int many)), some (.p b), none] s = .ok (.p (.bool true)) s := by
          by_cases h1 : many < 1
          · simp only [ev_v, ev_k, ev_g, ev_tup, ev_lst, ev_bin, ev_neg, ev_nt, ev_cmp, ev_chn, ev_an, ev_orr, ev_ife, ev_ix, ev_sl, ev_rev, ev_call, ev_bi, ev_isi, ev_isx, ev_app, ev_ins, ev_frz, ev_fld, evs_nil, evs_cons, evo_no, evo_so, G.R.bind_ok, rOr_some, vr_s, dInt_i, dBool_b, b_add, b_sub, b_pow18, b_pow9, c_lt, c_le, c_gt, c_ge, c_is, c_isn, List.getElem?_cons_succ, List.getElem?_cons_zero, List.set_cons_succ, List.set_cons_zero, brR_t, brR_f, hw nda, isI, Bool.not_true, decide_eq_true h1]
          · have h2 : 8 < many := by omega
            simp only [ev_v, ev_k, ev_g, ev_tup, ev_lst, ev_bin, ev_neg, ev_nt, ev_cmp, ev_chn, ev_an, ev_orr, ev_ife, ev_ix, ev_sl, ev_rev, ev_call, ev_bi, ev_isi, ev_isx, ev_app, ev_ins, ev_frz, ev_fld, evs_nil, evs_cons, evo_no, evo_so, G.R.bind_ok, rOr_some, vr_s, dInt_i, dBool_b, b_add, b_sub, b_pow18, b_pow9, c_lt, c_le, c_gt, c_ge, c_is, c_isn, List.getElem?_cons_succ, List.getElem?_cons_zero, List.set_cons_succ, List.set_cons_zero, brR_t, brR_f, hw nda, isI, Bool.not_true, decide_eq_false h1, decide_eq_true h2]
        rw [st_ifT cnd, st_ret (by simp only [ev_v, ev_k, ev_g, ev_tup, ev_lst, ev_bin, ev_neg, ev_nt, ev_cmp, ev_chn, ev_an, ev_orr, ev_ife, ev_ix, ev_sl, ev_rev, ev_call, ev_bi, ev_isi, ev_isx, ev_app, ev_ins, ev_frz, ev_fld, evs_nil, evs_cons, evo_no, evo_so, G.R.bind_ok, rOr_some, vr_s, dInt_i, dBool_b, b_add, b_sub, b_pow18, b_pow9, c_lt, c_le, c_gt, c_ge, c_is, c_isn, List.getElem?_cons_succ, List.getElem?_cons_zero, List.set_cons_succ, List.set_cons_zero, brR_t, brR_f, mkT_1] <;> rfl), RS.nxt_rt]
        show RS.rt (.p (t1 "places")) s = RS.rt (.p (twA (.int many) b)) s
        rw [twA_int, if_neg hm]
      rw [st_ifF (by simp only [ev_v, ev_k, ev_g, ev_tup, ev_lst, ev_bin, ev_neg, ev_nt, ev_cmp, ev_chn, ev_an, ev_orr, ev_ife, ev_ix, ev_sl, ev_rev, ev_call, ev_bi, ev_isi, ev_isx, ev_app, ev_ins, ev_frz, ev_fld, evs_nil, evs_cons, evo_no, evo_so, G.R.bind_ok, rOr_some, vr_s, dInt_i, dBool_b, b_add, b_sub, b_pow18, b_pow9, c_lt, c_le, c_gt, c_ge, c_is, c_isn, List.getElem?_cons_succ, List.getElem?_cons_zero, List.set_cons_succ, List.set_cons_zero, brR_t, brR_f, hw nda, isI, Bool.not_true, decide_eq_false (show ¬ many < 1 by omega), decide_eq_false (show ¬ 8 < many by omega)] <;> rfl), st_nil, RS.nxt_nx]
      have ht : twrong (.tuple [.int many, b]) = twB many b := by
        show twA (.int many) b = _
        rw [twA_int, if_pos hm]
      rw [ht]
      cases hl : isL b with
      | false =>
        rw [st_ifT (by simp only [ev_v, ev_k, ev_g, ev_tup, ev_lst, ev_bin, ev_neg, ev_nt, ev_cmp, ev_chn, ev_an, ev_orr, ev_ife, ev_ix, ev_sl, ev_rev, ev_call, ev_bi, ev_isi, ev_isx, ev_app, ev_ins, ev_frz, ev_fld, evs_nil, evs_cons, evo_no, evo_so, G.R.bind_ok, rOr_some, vr_s, dInt_i, dBool_b, b_add, b_sub, b_pow18, b_pow9, c_lt, c_le, c_gt, c_ge, c_is, c_isn, List.getElem?_cons_succ, List.getElem?_cons_zero, List.set_cons_succ, List.set_cons_zero, brR_t, brR_f, isi_list ndb, hl, Bool.not_false] <;> rfl), st_ret (by simp only [ev_v, ev_k, ev_g, ev_tup, ev_lst, ev_bin, ev_neg, ev_nt, ev_cmp, ev_chn, ev_an, ev_orr, ev_ife, ev_ix, ev_sl, ev_rev, ev_call, ev_bi, ev_isi, ev_isx, ev_app, ev_ins, ev_frz, ev_fld, evs_nil, evs_cons, evo_no, evo_so, G.R.bind_ok, rOr_some, vr_s, dInt_i, dBool_b, b_add, b_sub, b_pow18, b_pow9, c_lt, c_le, c_gt, c_ge, c_is, c_isn, List.getElem?_cons_succ, List.getElem?_cons_zero, List.set_cons_succ, List.set_cons_zero, brR_t, brR_f, mkT_1] <;> rfl), RS.nxt_rt]
        cases b <;> first | rfl | cases hl
      | true =>
      match b, hl with
      | .list rs, _ =>
      obtain ⟨rl, rf⟩ := fi_lst fb
      by_cases hr : 1 ≤ rs.length ∧ rs.length ≤ 16
      case neg =>
        have cnd : ev P (.orr (.nt (.isi (.v 4) .list)) (.orr (.cmp .lt (.bi .len false (.v 4)) (.k (.int 1))) (.cmp .gt (.bi .len false (.v 4)) (.k (.int 16))))) [some (.p (.tuple [.int many, .list rs])), none, none, some (.p (.int many)), some (.p (.list rs)), none] s = .ok (.p (.bool true)) s := by
          by_cases h1 : (rs.length : Int) < 1
          · simp only [ev_v, ev_k, ev_g, ev_tup, ev_lst, ev_bin, ev_neg, ev_nt, ev_cmp, ev_chn, ev_an, ev_orr, ev_ife, ev_ix, ev_sl, ev_rev, ev_call, ev_bi, ev_isi, ev_isx, ev_app, ev_ins, ev_frz, ev_fld, evs_nil, evs_cons, evo_no, evo_so, G.R.bind_ok, rOr_some, vr_s, dInt_i, dBool_b, b_add, b_sub, b_pow18, b_pow9, c_lt, c_le, c_gt, c_ge, c_is, c_isn, List.getElem?_cons_succ, List.getElem?_cons_zero, List.set_cons_succ, List.set_cons_zero, brR_t, brR_f, isi_list ndb, isL, Bool.not_true, l_len false (asSq_l rs), List.length_map, decide_eq_true h1]
          · have h2 : (16 : Int) < (rs.length : Int) := by omega
            simp only [ev_v, ev_k, ev_g, ev_tup, ev_lst, ev_bin, ev_neg, ev_nt, ev_cmp, ev_chn, ev_an, ev_orr, ev_ife, ev_ix, ev_sl, ev_rev, ev_call, ev_bi, ev_isi, ev_isx, ev_app, ev_ins, ev_frz, ev_fld, evs_nil, evs_cons, evo_no, evo_so, G.R.bind_ok, rOr_some, vr_s, dInt_i, dBool_b, b_add, b_sub, b_pow18, b_pow9, c_lt, c_le, c_gt, c_ge, c_is, c_isn, List.getElem?_cons_succ, List.getElem?_cons_zero, List.set_cons_succ, List.set_cons_zero, brR_t, brR_f, isi_list ndb, isL, Bool.not_true, l_len false (asSq_l rs), List.length_map, decide_eq_false h1, decide_eq_true h2]
        rw [st_ifT cnd, st_ret (by simp only [ev_v, ev_k, ev_g, ev_tup, ev_lst, ev_bin, ev_neg, ev_nt, ev_cmp, ev_chn, ev_an, ev_orr, ev_ife, ev_ix, ev_sl, ev_rev, ev_call, ev_bi, ev_isi, ev_isx, ev_app, ev_ins, ev_frz, ev_fld, evs_nil, evs_cons, evo_no, evo_so, G.R.bind_ok, rOr_some, vr_s, dInt_i, dBool_b, b_add, b_sub, b_pow18, b_pow9, c_lt, c_le, c_gt, c_ge, c_is, c_isn, List.getElem?_cons_succ, List.getElem?_cons_zero, List.set_cons_succ, List.set_cons_zero, brR_t, brR_f, mkT_1] <;> rfl), RS.nxt_rt]
        show RS.rt (.p (t1 "roads")) s = RS.rt (.p (twB many (.list rs))) s
        rw [twB_list, if_neg hr]
      rw [st_ifF (by simp only [ev_v, ev_k, ev_g, ev_tup, ev_lst, ev_bin, ev_neg, ev_nt, ev_cmp, ev_chn, ev_an, ev_orr, ev_ife, ev_ix, ev_sl, ev_rev, ev_call, ev_bi, ev_isi, ev_isx, ev_app, ev_ins, ev_frz, ev_fld, evs_nil, evs_cons, evo_no, evo_so, G.R.bind_ok, rOr_some, vr_s, dInt_i, dBool_b, b_add, b_sub, b_pow18, b_pow9, c_lt, c_le, c_gt, c_ge, c_is, c_isn, List.getElem?_cons_succ, List.getElem?_cons_zero, List.set_cons_succ, List.set_cons_zero, brR_t, brR_f, isi_list ndb, isL, Bool.not_true, l_len false (asSq_l rs), List.length_map, decide_eq_false (show ¬ (rs.length : Int) < 1 by omega), decide_eq_false (show ¬ (16 : Int) < (rs.length : Int) by omega)] <;> rfl), st_nil, RS.nxt_nx]
      have ht2 : twB many (.list rs) = twR many rs := by rw [twB_list, if_pos hr]
      rw [ht2]
      -- each road: its form, its places
      have cnd1 : ∀ (x : PyData) (y1 z2 : Option D), fi 2 x = true → ev P (.orr (.nt (.isi (.v 5) .tuple)) (.orr (.cmp .ne (.bi .len false (.v 5)) (.k (.int 2))) (.cmp .ne (.lc false (.v 2) [2] (.nm 2) (.seq (.v 5)) (.so (.nt (.call w (.cons (.v 2) .nil))))) (.lst false .nil)))) [some (.p (.tuple [.int many, .list rs])), y1, z2, some (.p (.int many)), some (.p (.list rs)), some (.p x)] s = .ok (.p (.bool (!isP x))) s := by
        intro x y1 z2 fx
        have ndx := fi_noD fx
        cases hx : isT x with
        | false =>
          have : isP x = false := by cases x <;> first | rfl | cases hx
          simp only [ev_v, ev_k, ev_g, ev_tup, ev_lst, ev_bin, ev_neg, ev_nt, ev_cmp, ev_chn, ev_an, ev_orr, ev_ife, ev_ix, ev_sl, ev_rev, ev_call, ev_bi, ev_isi, ev_isx, ev_app, ev_ins, ev_frz, ev_fld, evs_nil, evs_cons, evo_no, evo_so, G.R.bind_ok, rOr_some, vr_s, dInt_i, dBool_b, b_add, b_sub, b_pow18, b_pow9, c_lt, c_le, c_gt, c_ge, c_is, c_isn, List.getElem?_cons_succ, List.getElem?_cons_zero, List.set_cons_succ, List.set_cons_zero, brR_t, brR_f, isi_tuple ndx, hx, Bool.not_false, this]
        | true =>
        match x, hx with
        | .tuple l, _ =>
        obtain ⟨k1, k2⟩ := fi_tup fx
        have lcq := ev_lc (P := P) (fl := false) (el := .v 2) (ow := [2]) (tg := .nm 2) (c := .so (.nt (.call w (.cons (.v 2) .nil)))) (it_tup (P := P) (a := .v 5) (e := [some (.p (.tuple [.int many, .list rs])), y1, z2, some (.p (.int many)), some (.p (.list rs)), some (.p (.tuple l))]) (s := s) (s1 := s) (l := l) (by simp only [ev_v, ev_k, ev_g, ev_tup, ev_lst, ev_bin, ev_neg, ev_nt, ev_cmp, ev_chn, ev_an, ev_orr, ev_ife, ev_ix, ev_sl, ev_rev, ev_call, ev_bi, ev_isi, ev_isx, ev_app, ev_ins, ev_frz, ev_fld, evs_nil, evs_cons, evo_no, evo_so, G.R.bind_ok, rOr_some, vr_s, dInt_i, dBool_b, b_add, b_sub, b_pow18, b_pow9, c_lt, c_le, c_gt, c_ge, c_is, c_isn, List.getElem?_cons_succ, List.getElem?_cons_zero, List.set_cons_succ, List.set_cons_zero, brR_t, brR_f])) (by rw [List.length_map]; omega) (lcL_filt (fun d => Item.one (.p d)) (fun d => !isI d) (fun d => .p d) (by
          intro d hd
          refine noX_of _ _ _ ?_
          rw [bind_nm (by show 2 < 6; decide), rOr_some]
          simp only [wipeE, List.set_cons_succ, List.set_cons_zero, evc]
          simp only [ev_v, ev_k, ev_g, ev_tup, ev_lst, ev_bin, ev_neg, ev_nt, ev_cmp, ev_chn, ev_an, ev_orr, ev_ife, ev_ix, ev_sl, ev_rev, ev_call, ev_bi, ev_isi, ev_isx, ev_app, ev_ins, ev_frz, ev_fld, evs_nil, evs_cons, evo_no, evo_so, G.R.bind_ok, rOr_some, vr_s, dInt_i, dBool_b, b_add, b_sub, b_pow18, b_pow9, c_lt, c_le, c_gt, c_ge, c_is, c_isn, List.getElem?_cons_succ, List.getElem?_cons_zero, List.set_cons_succ, List.set_cons_zero, brR_t, brR_f, hw (fi_noD (k2 d hd))]
          by_cases q : (!isI d) = true
          · rw [if_pos q, if_pos q]
          · rw [if_neg q, if_neg q]))
        have fl : ∀ x ∈ l.filter (fun d => !isI d), fi 1 x = true := fun x hx => k2 x (List.mem_filter.mp hx).1
        have ln : (l.filter (fun d => !isI d)).length ≤ 400 := Nat.le_trans (List.length_filter_le _ _) k1
        rw [mkL_p _ _ (by omega)] at lcq
        by_cases l2 : l.length = 2
        · simp only [ev_v, ev_k, ev_g, ev_tup, ev_lst, ev_bin, ev_neg, ev_nt, ev_cmp, ev_chn, ev_an, ev_orr, ev_ife, ev_ix, ev_sl, ev_rev, ev_call, ev_bi, ev_isi, ev_isx, ev_app, ev_ins, ev_frz, ev_fld, evs_nil, evs_cons, evo_no, evo_so, G.R.bind_ok, rOr_some, vr_s, dInt_i, dBool_b, b_add, b_sub, b_pow18, b_pow9, c_lt, c_le, c_gt, c_ge, c_is, c_isn, List.getElem?_cons_succ, List.getElem?_cons_zero, List.set_cons_succ, List.set_cons_zero, brR_t, brR_f, isi_tuple ndx, isT, Bool.not_true, l_len false (asSq_t l), List.length_map, ne_int, l2, show (!((2 : Nat) : Int) == 2) = false from rfl, lcq, mkL_0, ne_p (fi_sh (k := 2) (by decide) (fi_all ln fl)) nil_shaped, eqv_nil]
          match l, l2 with
          | [a, b], _ => cases a <;> cases b <;> rfl
        · have z : (!((l.length : Int) == 2)) = true := by simp; omega
          simp only [ev_v, ev_k, ev_g, ev_tup, ev_lst, ev_bin, ev_neg, ev_nt, ev_cmp, ev_chn, ev_an, ev_orr, ev_ife, ev_ix, ev_sl, ev_rev, ev_call, ev_bi, ev_isi, ev_isx, ev_app, ev_ins, ev_frz, ev_fld, evs_nil, evs_cons, evo_no, evo_so, G.R.bind_ok, rOr_some, vr_s, dInt_i, dBool_b, b_add, b_sub, b_pow18, b_pow9, c_lt, c_le, c_gt, c_ge, c_is, c_isn, List.getElem?_cons_succ, List.getElem?_cons_zero, List.set_cons_succ, List.set_cons_zero, brR_t, brR_f, isi_tuple ndx, isT, Bool.not_true, l_len false (asSq_t l), List.length_map, ne_int, z]
          match l, l2 with
          | [], _ => rfl
          | [a], _ => cases a <;> rfl
          | a :: b :: c :: l, _ => cases a <;> cases b <;> rfl
      have cnd2 : ∀ (u v : Int) (y1 z2 : Option D), ev P (.orr (.cmp .lt (.bi .min false (.v 5)) (.k (.int 0))) (.cmp .ge (.bi .max false (.v 5)) (.v 3))) [some (.p (.tuple [.int many, .list rs])), y1, z2, some (.p (.int many)), some (.p (.list rs)), some (.p (.tuple [.int u, .int v]))] s = .ok (.p (.bool (!roadOk many (.tuple [.int u, .int v])))) s := by
        intro u v y1 z2
        have e1 : (!roadOk many (.tuple [.int u, .int v])) = (decide ((if v < u then v else u) < 0) || decide (many ≤ (if u < v then v else u))) := by
          unfold roadOk
          by_cases q : u < v
          · have q2 : ¬ v < u := by omega
            rw [if_pos q, if_neg q2]
            by_cases a1 : u < 0 <;> by_cases a2 : many ≤ v <;> simp [a1, a2] <;> omega
          · rw [if_neg q]
            by_cases q2 : v < u
            · rw [if_pos q2]
              by_cases a1 : v < 0 <;> by_cases a2 : many ≤ u <;> simp [a1, a2] <;> omega
            · rw [if_neg q2]
              by_cases a1 : u < 0 <;> by_cases a2 : many ≤ u <;> simp [a1, a2] <;> omega
        rw [e1]
        simp only [ev_v, ev_k, ev_g, ev_tup, ev_lst, ev_bin, ev_neg, ev_nt, ev_cmp, ev_chn, ev_an, ev_orr, ev_ife, ev_ix, ev_sl, ev_rev, ev_call, ev_bi, ev_isi, ev_isx, ev_app, ev_ins, ev_frz, ev_fld, evs_nil, evs_cons, evo_no, evo_so, G.R.bind_ok, rOr_some, vr_s, dInt_i, dBool_b, b_add, b_sub, b_pow18, b_pow9, c_lt, c_le, c_gt, c_ge, c_is, c_isn, List.getElem?_cons_succ, List.getElem?_cons_zero, List.set_cons_succ, List.set_cons_zero, brR_t, brR_f, mn2, mx2]
        rw [brR_b]
        by_cases a1 : (if v < u then v else u) < 0
        · rw [if_pos (decide_eq_true a1), decide_eq_true a1]; rfl
        · rw [if_neg (by simpa using a1), decide_eq_false a1]; rfl
      obtain ⟨e', ⟨z1, z5, rfl⟩, hf⟩ := forL_first (f := fun x e1 s2 => bindS (.nm 1) x s2 e1 fun e2 => exs P (.cons (.asg (.nm 5) (.ix (.v 4) (.v 1))) (.cons (.ifs (.orr (.nt (.isi (.v 5) .tuple)) (.orr (.cmp .ne (.bi .len false (.v 5)) (.k (.int 2))) (.cmp .ne (.lc false (.v 2) [2] (.nm 2) (.seq (.v 5)) (.so (.nt (.call w (.cons (.v 2) .nil))))) (.lst false .nil)))) (.cons (.ret (.tup (.cons (.k (.str "road")) (.cons (.v 1) .nil)))) .nil) .nil) (.cons (.ifs (.orr (.cmp .lt (.bi .min false (.v 5)) (.k (.int 0))) (.cmp .ge (.bi .max false (.v 5)) (.v 3))) (.cons (.ret (.tup (.cons (.k (.str "road")) (.cons (.v 1) .nil)))) .nil) .nil) .nil))) e2 s2)
        (items := (List.range rs.length).map fun (k : Nat) => Item.one (.p (.int (k : Int)))) (s := s) (fun i => !roadOk many (rs.getD i .none)) (fun i => .p (t2 "road" i)) (fun e => ∃ z1 z5, e = [some (.p (.tuple [.int many, .list rs])), z1, none, some (.p (.int many)), some (.p (.list rs)), z5]) (by
          rintro i x e hx ⟨z1, z5, rfl⟩
          obtain ⟨hi, rfl⟩ := rng_get hx
          have q : rs[i]? = some rs[i] := List.getElem?_eq_getElem hi
          have hy : rs.getD i .none = rs[i] := by rw [List.getD_eq_getElem?_getD, q]; rfl
          rw [hy]
          generalize rs[i] = y at q
          have fy := rf y (List.mem_of_getElem? q)
          have c1 := cnd1 y (some (.p (.int (i : Int)))) none fy
          have body : ∀ r, exs P r [some (.p (.tuple [.int many, .list rs])), some (.p (.int (i : Int))), none, some (.p (.int many)), some (.p (.list rs)), z5] s = exs P r [some (.p (.tuple [.int many, .list rs])), some (.p (.int (i : Int))), none, some (.p (.int many)), some (.p (.list rs)), z5] s := fun _ => rfl
          constructor
          · intro hb
            show exs P _ [some (.p (.tuple [.int many, .list rs])), some (.p (.int (i : Int))), none, some (.p (.int many)), some (.p (.list rs)), z5] s = _
            rw [st_asg (by simp only [ev_v, ev_k, ev_g, ev_tup, ev_lst, ev_bin, ev_neg, ev_nt, ev_cmp, ev_chn, ev_an, ev_orr, ev_ife, ev_ix, ev_sl, ev_rev, ev_call, ev_bi, ev_isi, ev_isx, ev_app, ev_ins, ev_frz, ev_fld, evs_nil, evs_cons, evo_no, evo_so, G.R.bind_ok, rOr_some, vr_s, dInt_i, dBool_b, b_add, b_sub, b_pow18, b_pow9, c_lt, c_le, c_gt, c_ge, c_is, c_isn, List.getElem?_cons_succ, List.getElem?_cons_zero, List.set_cons_succ, List.set_cons_zero, brR_t, brR_f, i_ix (asSq_l rs) (atI_nat (pD_get q))] <;> rfl) rfl]
            simp only [List.set_cons_succ, List.set_cons_zero]
            cases hp : isP y with
            | false =>
              rw [hp] at c1
              rw [st_ifT c1, st_ret (by simp only [ev_v, ev_k, ev_g, ev_tup, ev_lst, ev_bin, ev_neg, ev_nt, ev_cmp, ev_chn, ev_an, ev_orr, ev_ife, ev_ix, ev_sl, ev_rev, ev_call, ev_bi, ev_isi, ev_isx, ev_app, ev_ins, ev_frz, ev_fld, evs_nil, evs_cons, evo_no, evo_so, G.R.bind_ok, rOr_some, vr_s, dInt_i, dBool_b, b_add, b_sub, b_pow18, b_pow9, c_lt, c_le, c_gt, c_ge, c_is, c_isn, List.getElem?_cons_succ, List.getElem?_cons_zero, List.set_cons_succ, List.set_cons_zero, brR_t, brR_f, mkT_2] <;> rfl), RS.nxt_rt]
              rfl
            | true =>
              rw [hp] at c1
              rw [st_ifF c1, st_nil, RS.nxt_nx]
              unfold isP at hp
              split at hp
              · rename_i u v
                have c2 := cnd2 u v (some (.p (.int (i : Int)))) none
                rw [hb] at c2
                rw [st_ifT c2, st_ret (by simp only [ev_v, ev_k, ev_g, ev_tup, ev_lst, ev_bin, ev_neg, ev_nt, ev_cmp, ev_chn, ev_an, ev_orr, ev_ife, ev_ix, ev_sl, ev_rev, ev_call, ev_bi, ev_isi, ev_isx, ev_app, ev_ins, ev_frz, ev_fld, evs_nil, evs_cons, evo_no, evo_so, G.R.bind_ok, rOr_some, vr_s, dInt_i, dBool_b, b_add, b_sub, b_pow18, b_pow9, c_lt, c_le, c_gt, c_ge, c_is, c_isn, List.getElem?_cons_succ, List.getElem?_cons_zero, List.set_cons_succ, List.set_cons_zero, brR_t, brR_f, mkT_2] <;> rfl), RS.nxt_rt]
                rfl
              · cases hp
          · intro hb
            refine ⟨_, ?_, some (.p (.int (i : Int))), some (.p y), rfl⟩
            show exs P _ [some (.p (.tuple [.int many, .list rs])), some (.p (.int (i : Int))), none, some (.p (.int many)), some (.p (.list rs)), z5] s = _
            rw [st_asg (by simp only [ev_v, ev_k, ev_g, ev_tup, ev_lst, ev_bin, ev_neg, ev_nt, ev_cmp, ev_chn, ev_an, ev_orr, ev_ife, ev_ix, ev_sl, ev_rev, ev_call, ev_bi, ev_isi, ev_isx, ev_app, ev_ins, ev_frz, ev_fld, evs_nil, evs_cons, evo_no, evo_so, G.R.bind_ok, rOr_some, vr_s, dInt_i, dBool_b, b_add, b_sub, b_pow18, b_pow9, c_lt, c_le, c_gt, c_ge, c_is, c_isn, List.getElem?_cons_succ, List.getElem?_cons_zero, List.set_cons_succ, List.set_cons_zero, brR_t, brR_f, i_ix (asSq_l rs) (atI_nat (pD_get q))] <;> rfl) rfl]
            simp only [List.set_cons_succ, List.set_cons_zero]
            have hok : roadOk many y = true := by simpa using hb
            unfold roadOk at hok
            split at hok
            · rename_i u v
              have c2 := cnd2 u v (some (.p (.int (i : Int)))) none
              rw [hb] at c2
              rw [st_ifF c1, st_nil, RS.nxt_nx, st_ifF c2, st_nil, RS.nxt_nx, st_nil]
            · cases hok) (e := [some (.p (.tuple [.int many, .list rs])), none, none, some (.p (.int many)), some (.p (.list rs)), none]) ⟨_, _, rfl⟩
      rw [List.length_map, List.length_range] at hf
      have hev : evi P (.rng (.bi .len false (.v 4))) [some (.p (.tuple [.int many, .list rs])), none, none, some (.p (.int many)), some (.p (.list rs)), none] s = .ok ((List.range rs.length).map fun (k : Nat) => Item.one (.p (.int (k : Int)))) s := by
        have := r_rng (P := P) (e := [some (.p (.tuple [.int many, .list rs])), none, none, some (.p (.int many)), some (.p (.list rs)), none]) (s := s) (s1 := s) (a := .bi .len false (.v 4)) (i := (rs.length : Int)) (by simp only [ev_v, ev_k, ev_g, ev_tup, ev_lst, ev_bin, ev_neg, ev_nt, ev_cmp, ev_chn, ev_an, ev_orr, ev_ife, ev_ix, ev_sl, ev_rev, ev_call, ev_bi, ev_isi, ev_isx, ev_app, ev_ins, ev_frz, ev_fld, evs_nil, evs_cons, evo_no, evo_so, G.R.bind_ok, rOr_some, vr_s, dInt_i, dBool_b, b_add, b_sub, b_pow18, b_pow9, c_lt, c_le, c_gt, c_ge, c_is, c_isn, List.getElem?_cons_succ, List.getElem?_cons_zero, List.set_cons_succ, List.set_cons_zero, brR_t, brR_f, l_len false (asSq_l rs), List.length_map]) (by omega) (by omega)
        rw [this]
        simp
      rw [for_first hev hf]
      unfold twR
      cases hfi : (List.range rs.length).find? (fun i => !roadOk many (rs.getD i .none)) with
      | some i => rfl
      | none =>
      show exs P _ _ s = _
      dsimp only
      have hrs := rs_pairs hfi
      have htw : (PyData.tuple [.int many, .list rs]) = townP many (rs.map unP) := by
        unfold townP
        rw [← hrs]
      obtain ⟨e', ⟨y1, rfl⟩, hf⟩ := forL_first (f := fun x e1 s2 => bindS (.nm 2) x s2 e1 fun e2 => exs P (.cons (.ifs (.cmp .eq (.call en (.cons (.v 0) (.cons (.v 2) .nil))) (.lst false .nil)) (.cons (.ret (.tup (.cons (.k (.str "bare")) (.cons (.v 2) .nil)))) .nil) .nil) .nil) e2 s2)
        (items := (List.range many.toNat).map fun (k : Nat) => Item.one (.p (.int (k : Int)))) (s := s) (fun v => (ends (rs.map unP) (v : Int)).isEmpty) (fun i => .p (t2 "bare" i)) (fun e => ∃ y1, e = [some (.p (.tuple [.int many, .list rs])), z1, y1, some (.p (.int many)), some (.p (.list rs)), z5]) (by
          rintro i x e hx ⟨y1, rfl⟩
          obtain ⟨hi, rfl⟩ := rng_get hx
          have c1 : ev P (.cmp .eq (.call en (.cons (.v 0) (.cons (.v 2) .nil))) (.lst false .nil)) [some (.p (.tuple [.int many, .list rs])), z1, some (.p (.int (i : Int))), some (.p (.int many)), some (.p (.list rs)), z5] s = .ok (.p (.bool (ends (rs.map unP) (i : Int)).isEmpty)) s := by
            have hee := he (s := s) (many := many) (v := (i : Int)) (ls := rs.map unP) (by rw [List.length_map]; omega)
            rw [← htw] at hee
            simp only [ev_v, ev_k, ev_g, ev_tup, ev_lst, ev_bin, ev_neg, ev_nt, ev_cmp, ev_chn, ev_an, ev_orr, ev_ife, ev_ix, ev_sl, ev_rev, ev_call, ev_bi, ev_isi, ev_isx, ev_app, ev_ins, ev_frz, ev_fld, evs_nil, evs_cons, evo_no, evo_so, G.R.bind_ok, rOr_some, vr_s, dInt_i, dBool_b, b_add, b_sub, b_pow18, b_pow9, c_lt, c_le, c_gt, c_ge, c_is, c_isn, List.getElem?_cons_succ, List.getElem?_cons_zero, List.set_cons_succ, List.set_cons_zero, brR_t, brR_f, hee, mkL_0, eq_p (ends_shaped _) nil_shaped, eqv_nil, List.isEmpty_map]
          constructor
          · intro hb
            rw [hb] at c1
            show exs P _ [some (.p (.tuple [.int many, .list rs])), z1, some (.p (.int (i : Int))), some (.p (.int many)), some (.p (.list rs)), z5] s = _
            rw [st_ifT c1, st_ret (by simp only [ev_v, ev_k, ev_g, ev_tup, ev_lst, ev_bin, ev_neg, ev_nt, ev_cmp, ev_chn, ev_an, ev_orr, ev_ife, ev_ix, ev_sl, ev_rev, ev_call, ev_bi, ev_isi, ev_isx, ev_app, ev_ins, ev_frz, ev_fld, evs_nil, evs_cons, evo_no, evo_so, G.R.bind_ok, rOr_some, vr_s, dInt_i, dBool_b, b_add, b_sub, b_pow18, b_pow9, c_lt, c_le, c_gt, c_ge, c_is, c_isn, List.getElem?_cons_succ, List.getElem?_cons_zero, List.set_cons_succ, List.set_cons_zero, brR_t, brR_f, mkT_2] <;> rfl), RS.nxt_rt]
            rfl
          · intro hb
            rw [hb] at c1
            refine ⟨_, ?_, some (.p (.int (i : Int))), rfl⟩
            show exs P _ [some (.p (.tuple [.int many, .list rs])), z1, some (.p (.int (i : Int))), some (.p (.int many)), some (.p (.list rs)), z5] s = _
            rw [st_ifF c1, st_nil, RS.nxt_nx, st_nil]) (e := [some (.p (.tuple [.int many, .list rs])), z1, none, some (.p (.int many)), some (.p (.list rs)), z5]) ⟨_, rfl⟩
      rw [List.length_map, List.length_range] at hf
      rw [for_first (r_rng (by simp only [ev_v, ev_k, ev_g, ev_tup, ev_lst, ev_bin, ev_neg, ev_nt, ev_cmp, ev_chn, ev_an, ev_orr, ev_ife, ev_ix, ev_sl, ev_rev, ev_call, ev_bi, ev_isi, ev_isx, ev_app, ev_ins, ev_frz, ev_fld, evs_nil, evs_cons, evo_no, evo_so, G.R.bind_ok, rOr_some, vr_s, dInt_i, dBool_b, b_add, b_sub, b_pow18, b_pow9, c_lt, c_le, c_gt, c_ge, c_is, c_isn, List.getElem?_cons_succ, List.getElem?_cons_zero, List.set_cons_succ, List.set_cons_zero, brR_t, brR_f] <;> rfl) (by omega) (by omega)) hf]
      cases (List.range many.toNat).find? (fun (v : Nat) => (ends (rs.map unP) (v : Int)).isEmpty) with
      | some i => rfl
      | none =>
        show exs P _ _ s = _
        rw [st_ret (by simp only [ev_v, ev_k, ev_g, ev_tup, ev_lst, ev_bin, ev_neg, ev_nt, ev_cmp, ev_chn, ev_an, ev_orr, ev_ife, ev_ix, ev_sl, ev_rev, ev_call, ev_bi, ev_isi, ev_isx, ev_app, ev_ins, ev_frz, ev_fld, evs_nil, evs_cons, evo_no, evo_so, G.R.bind_ok, rOr_some, vr_s, dInt_i, dBool_b, b_add, b_sub, b_pow18, b_pow9, c_lt, c_le, c_gt, c_ge, c_is, c_isn, List.getElem?_cons_succ, List.getElem?_cons_zero, List.set_cons_succ, List.set_cons_zero, brR_t, brR_f] <;> rfl)]
    · rw [st_ifT (by simp only [ev_v, ev_k, ev_g, ev_tup, ev_lst, ev_bin, ev_neg, ev_nt, ev_cmp, ev_chn, ev_an, ev_orr, ev_ife, ev_ix, ev_sl, ev_rev, ev_call, ev_bi, ev_isi, ev_isx, ev_app, ev_ins, ev_frz, ev_fld, evs_nil, evs_cons, evo_no, evo_so, G.R.bind_ok, rOr_some, vr_s, dInt_i, dBool_b, b_add, b_sub, b_pow18, b_pow9, c_lt, c_le, c_gt, c_ge, c_is, c_isn, List.getElem?_cons_succ, List.getElem?_cons_zero, List.set_cons_succ, List.set_cons_zero, brR_t, brR_f, isi_tuple nd, isT, Bool.not_true, l_len false (asSq_t l), ne_int, List.length_map, show (!((l.length : Int) == 2)) = true from by simp; omega] <;> rfl), st_ret (by simp only [ev_v, ev_k, ev_g, ev_tup, ev_lst, ev_bin, ev_neg, ev_nt, ev_cmp, ev_chn, ev_an, ev_orr, ev_ife, ev_ix, ev_sl, ev_rev, ev_call, ev_bi, ev_isi, ev_isx, ev_app, ev_ins, ev_frz, ev_fld, evs_nil, evs_cons, evo_no, evo_so, G.R.bind_ok, rOr_some, vr_s, dInt_i, dBool_b, b_add, b_sub, b_pow18, b_pow9, c_lt, c_le, c_gt, c_ge, c_is, c_isn, List.getElem?_cons_succ, List.getElem?_cons_zero, List.set_cons_succ, List.set_cons_zero, brR_t, brR_f, mkT_1] <;> rfl), RS.nxt_rt]
      match l, l2 with
      | [], _ => rfl
      | [a], _ => rfl
      | a :: b :: c :: l, _ => rfl
end
end G

namespace G
open PySem PySem.Spec PyProof.Rows L2
open Classical
noncomputable section
/-! ### refusing -/
theorem st_raiseV {P : Pg} {e : Env} {s s1 : Sto} {k f : Nat} {a : E} {r : Ss} {d : D} (h : ev P a e s = .ok d s1) : exs P (.cons (.raiseV k f a) r) e s = .exc ⟨k, some d⟩ e s1 := by
  simp only [exs, exe, h, toS_ok]
  rfl
theorem st_raiseM {P : Pg} {e : Env} {s : Sto} {k : Nat} {r : Ss} : exs P (.cons (.raiseM k) r) e s = .exc ⟨k, none⟩ e s := by
  simp only [exs, exe]
  rfl
theorem st_exX {P : Pg} {e : Env} {s s1 : Sto} {a : E} {r : Ss} {x : Xn} (h : ev P a e s = .exc x s1) : exs P (.cons (.ex a) r) e s = .exc x e s1 := by
  simp only [exs, exe, h]
  rfl
theorem nxt_exc (x : Xn) (e : Env) (s : Sto) (f : Env → Sto → RS) : (RS.exc x e s).nxt f = .exc x e s := rfl
theorem st_try {P : Pg} {e e1 : Env} {s s1 : Sto} {b r : Ss} {k x i : Nat} {y : Xn} (h : exs P b e s = .exc y e1 s1) (hs : P.sb y.c k = some true) (hx : x < e1.length) :
    exs P (.cons (.tryC b k x i) r) e s = exs P r (((e1.set x (some (.o s1.length))).set i (some (.o s1.length))).set x none) (s1 ++ [some (.exn y.c y.pl)]) := by
  simp only [exs, exe, h, hs, if_pos hx, RS.nxt_nx]
/-- the classes: 0 the refusals' own, m NoPlace, t NoTown -/
structure Sb (P : Pg) (m t : Nat) : Prop where
  m0 : P.sb m 0 = some true
  t0 : P.sb t 0 = some true
  mm : P.sb m m = some true
  tt : P.sb t t = some true
  mt : P.sb m t = some false
  tm : P.sb t m = some false
def bMbt (wr t : Nat) : Ss := (.cons (.asg (.nm 1) (.call wr (.cons (.v 0) .nil))) (.cons (.ifs (.cmp .isn (.v 1) (.k .none)) (.cons (.raiseV t 0 (.v 1)) .nil) .nil) .nil))
def MbtF (t : Nat) (Φ : List D → Sto → R D) : Prop := ∀ {s : Sto} {q : PyData}, fi 4 q = true → (twrong q = .none → Φ [.p q] s = .ok (.p .none) s) ∧ (twrong q ≠ .none → Φ [.p q] s = .exc ⟨t, some (.p (twrong q))⟩ s)
theorem isN_p (q : PyData) : isNone (.p q) = decide (q = .none) := by
  cases q <;> simp [isNone]
theorem mbt_run (P : Pg) {wr t : Nat} (hw : WrongF (P.Φ wr)) : MbtF t (fun args s => runB P ⟨1, 2, bMbt wr t, true⟩ args s) := by
  intro s q h
  refine ⟨fun hz => run_none (e := [some (.p q), some (.p (twrong q))]) ?_, fun hz => run_exc (e := [some (.p q), some (.p (twrong q))]) ?_ rfl⟩
  · show exs P (bMbt wr t) [some (.p q), none] s = _
    unfold bMbt
    rw [st_asg (by simp only [ev_v, ev_k, ev_g, ev_tup, ev_lst, ev_bin, ev_neg, ev_nt, ev_cmp, ev_chn, ev_an, ev_orr, ev_ife, ev_ix, ev_sl, ev_rev, ev_call, ev_bi, ev_isi, ev_isx, ev_app, ev_ins, ev_frz, ev_fld, evs_nil, evs_cons, evo_no, evo_so, G.R.bind_ok, rOr_some, vr_s, dInt_i, dBool_b, b_add, b_sub, b_pow18, b_pow9, c_lt, c_le, c_gt, c_ge, c_is, c_isn, List.getElem?_cons_succ, List.getElem?_cons_zero, List.set_cons_succ, List.set_cons_zero, brR_t, brR_f, hw h] <;> rfl) rfl]
    simp only [List.set_cons_succ, List.set_cons_zero]
    rw [st_ifF (by simp only [ev_v, ev_k, ev_g, ev_tup, ev_lst, ev_bin, ev_neg, ev_nt, ev_cmp, ev_chn, ev_an, ev_orr, ev_ife, ev_ix, ev_sl, ev_rev, ev_call, ev_bi, ev_isi, ev_isx, ev_app, ev_ins, ev_frz, ev_fld, evs_nil, evs_cons, evo_no, evo_so, G.R.bind_ok, rOr_some, vr_s, dInt_i, dBool_b, b_add, b_sub, b_pow18, b_pow9, c_lt, c_le, c_gt, c_ge, c_is, c_isn, List.getElem?_cons_succ, List.getElem?_cons_zero, List.set_cons_succ, List.set_cons_zero, brR_t, brR_f, isN_p, decide_eq_true hz, Bool.not_true] <;> rfl), st_nil, RS.nxt_nx, st_nil]
  · show exs P (bMbt wr t) [some (.p q), none] s = _
    unfold bMbt
    rw [st_asg (by simp only [ev_v, ev_k, ev_g, ev_tup, ev_lst, ev_bin, ev_neg, ev_nt, ev_cmp, ev_chn, ev_an, ev_orr, ev_ife, ev_ix, ev_sl, ev_rev, ev_call, ev_bi, ev_isi, ev_isx, ev_app, ev_ins, ev_frz, ev_fld, evs_nil, evs_cons, evo_no, evo_so, G.R.bind_ok, rOr_some, vr_s, dInt_i, dBool_b, b_add, b_sub, b_pow18, b_pow9, c_lt, c_le, c_gt, c_ge, c_is, c_isn, List.getElem?_cons_succ, List.getElem?_cons_zero, List.set_cons_succ, List.set_cons_zero, brR_t, brR_f, hw h] <;> rfl) rfl]
    simp only [List.set_cons_succ, List.set_cons_zero]
    rw [st_ifT (by simp only [ev_v, ev_k, ev_g, ev_tup, ev_lst, ev_bin, ev_neg, ev_nt, ev_cmp, ev_chn, ev_an, ev_orr, ev_ife, ev_ix, ev_sl, ev_rev, ev_call, ev_bi, ev_isi, ev_isx, ev_app, ev_ins, ev_frz, ev_fld, evs_nil, evs_cons, evo_no, evo_so, G.R.bind_ok, rOr_some, vr_s, dInt_i, dBool_b, b_add, b_sub, b_pow18, b_pow9, c_lt, c_le, c_gt, c_ge, c_is, c_isn, List.getElem?_cons_succ, List.getElem?_cons_zero, List.set_cons_succ, List.set_cons_zero, brR_t, brR_f, isN_p, decide_eq_false hz, Bool.not_false] <;> rfl), st_raiseV (d := .p (twrong q)) (s1 := s) (by simp only [ev_v, ev_k, ev_g, ev_tup, ev_lst, ev_bin, ev_neg, ev_nt, ev_cmp, ev_chn, ev_an, ev_orr, ev_ife, ev_ix, ev_sl, ev_rev, ev_call, ev_bi, ev_isi, ev_isx, ev_app, ev_ins, ev_frz, ev_fld, evs_nil, evs_cons, evo_no, evo_so, G.R.bind_ok, rOr_some, vr_s, dInt_i, dBool_b, b_add, b_sub, b_pow18, b_pow9, c_lt, c_le, c_gt, c_ge, c_is, c_isn, List.getElem?_cons_succ, List.getElem?_cons_zero, List.set_cons_succ, List.set_cons_zero, brR_t, brR_f] <;> rfl), nxt_exc]
def plOk (many : Int) : PyData → Bool
  | .int v => decide (0 ≤ v ∧ v < many)
  | _ => false
def bMbp (w m : Nat) : Ss := (.cons (.ifs (.orr (.nt (.call w (.cons (.v 1) .nil))) (.nt (.chn .le .lt (.k (.int 0)) (.v 1) (.ix (.v 0) (.k (.int 0)))))) (.cons (.raiseM m) .nil) .nil) .nil)
def MbpF (m : Nat) (Φ : List D → Sto → R D) : Prop := ∀ {s : Sto} {many : Int} {ls : List (Int × Int)} {q : PyData}, noD q = true → (plOk many q = true → Φ [.p (townP many ls), .p q] s = .ok (.p .none) s) ∧ (plOk many q = false → Φ [.p (townP many ls), .p q] s = .exc ⟨m, none⟩ s)
theorem mbp_run (P : Pg) {w m : Nat} (hw : WholeF (P.Φ w)) : MbpF m (fun args s => runB P ⟨2, 2, bMbp w m, true⟩ args s) := by
  intro s many ls q h
  have cnd : ev P (.orr (.nt (.call w (.cons (.v 1) .nil))) (.nt (.chn .le .lt (.k (.int 0)) (.v 1) (.ix (.v 0) (.k (.int 0)))))) [some (.p (townP many ls)), some (.p q)] s = .ok (.p (.bool (!plOk many q))) s := by
    cases hi : isI q with
    | false =>
      have : plOk many q = false := by cases q <;> first | rfl | cases hi
      simp only [ev_v, ev_k, ev_g, ev_tup, ev_lst, ev_bin, ev_neg, ev_nt, ev_cmp, ev_chn, ev_an, ev_orr, ev_ife, ev_ix, ev_sl, ev_rev, ev_call, ev_bi, ev_isi, ev_isx, ev_app, ev_ins, ev_frz, ev_fld, evs_nil, evs_cons, evo_no, evo_so, G.R.bind_ok, rOr_some, vr_s, dInt_i, dBool_b, b_add, b_sub, b_pow18, b_pow9, c_lt, c_le, c_gt, c_ge, c_is, c_isn, List.getElem?_cons_succ, List.getElem?_cons_zero, List.set_cons_succ, List.set_cons_zero, brR_t, brR_f, hw h, hi, Bool.not_false, this]
    | true =>
      match q, hi with
      | .int v, _ =>
      unfold townP plOk
      by_cases h1 : 0 ≤ v
      · by_cases h2 : v < many
        · simp only [ev_v, ev_k, ev_g, ev_tup, ev_lst, ev_bin, ev_neg, ev_nt, ev_cmp, ev_chn, ev_an, ev_orr, ev_ife, ev_ix, ev_sl, ev_rev, ev_call, ev_bi, ev_isi, ev_isx, ev_app, ev_ins, ev_frz, ev_fld, evs_nil, evs_cons, evo_no, evo_so, G.R.bind_ok, rOr_some, vr_s, dInt_i, dBool_b, b_add, b_sub, b_pow18, b_pow9, c_lt, c_le, c_gt, c_ge, c_is, c_isn, List.getElem?_cons_succ, List.getElem?_cons_zero, List.set_cons_succ, List.set_cons_zero, brR_t, brR_f, hw h, isI, Bool.not_true, decide_eq_true h1, i_ix (asSq_t _) (at_town0 many ls), decide_eq_true h2, decide_eq_true (And.intro h1 h2)]
        · simp only [ev_v, ev_k, ev_g, ev_tup, ev_lst, ev_bin, ev_neg, ev_nt, ev_cmp, ev_chn, ev_an, ev_orr, ev_ife, ev_ix, ev_sl, ev_rev, ev_call, ev_bi, ev_isi, ev_isx, ev_app, ev_ins, ev_frz, ev_fld, evs_nil, evs_cons, evo_no, evo_so, G.R.bind_ok, rOr_some, vr_s, dInt_i, dBool_b, b_add, b_sub, b_pow18, b_pow9, c_lt, c_le, c_gt, c_ge, c_is, c_isn, List.getElem?_cons_succ, List.getElem?_cons_zero, List.set_cons_succ, List.set_cons_zero, brR_t, brR_f, hw h, isI, Bool.not_true, Bool.not_false, decide_eq_true h1, i_ix (asSq_t _) (at_town0 many ls), decide_eq_false h2, decide_eq_false (fun z : 0 ≤ v ∧ v < many => h2 z.2)]
      · simp only [ev_v, ev_k, ev_g, ev_tup, ev_lst, ev_bin, ev_neg, ev_nt, ev_cmp, ev_chn, ev_an, ev_orr, ev_ife, ev_ix, ev_sl, ev_rev, ev_call, ev_bi, ev_isi, ev_isx, ev_app, ev_ins, ev_frz, ev_fld, evs_nil, evs_cons, evo_no, evo_so, G.R.bind_ok, rOr_some, vr_s, dInt_i, dBool_b, b_add, b_sub, b_pow18, b_pow9, c_lt, c_le, c_gt, c_ge, c_is, c_isn, List.getElem?_cons_succ, List.getElem?_cons_zero, List.set_cons_succ, List.set_cons_zero, brR_t, brR_f, hw h, isI, Bool.not_true, Bool.not_false, decide_eq_false h1, decide_eq_false (fun z : 0 ≤ v ∧ v < many => h1 z.1)]
  refine ⟨fun hz => run_none (e := [some (.p (townP many ls)), some (.p q)]) ?_, fun hz => run_exc (e := [some (.p (townP many ls)), some (.p q)]) ?_ rfl⟩
  · show exs P (bMbp w m) [some (.p (townP many ls)), some (.p q)] s = _
    unfold bMbp
    rw [hz] at cnd
    rw [st_ifF cnd, st_nil, RS.nxt_nx, st_nil]
  · show exs P (bMbp w m) [some (.p (townP many ls)), some (.p q)] s = _
    unfold bMbp
    rw [hz] at cnd
    rw [st_ifT cnd, st_raiseM, nxt_exc]
/-! right towns are looked at as right -/
theorem unP_prP (ls : List (Int × Int)) : (ls.map prP).map unP = ls := by
  rw [List.map_map]
  conv => rhs; rw [← List.map_id ls]
  rfl
theorem roadOk_pr {many : Int} {x : Int × Int} (h : 0 ≤ x.1 ∧ x.1 < many ∧ 0 ≤ x.2 ∧ x.2 < many) : roadOk many (prP x) = true := decide_eq_true h
theorem tw_right {b many : Int} {ls : List (Int × Int)} (h : Tw b many ls) (hb : b ≤ 8) : twrong (townP many ls) = .none := by
  have e1 : twrong (townP many ls) = twR many (ls.map prP) := by
    show twA (.int many) (.list (ls.map prP)) = _
    rw [twA_int, if_pos ⟨h.m1, Int.le_trans h.m2 hb⟩, twB_list, if_pos]
    rw [List.length_map]
    exact ⟨h.l1, by have := h.l2; omega⟩
  rw [e1]
  unfold twR
  have f1 : (List.range (ls.map prP).length).find? (fun i => !roadOk many ((ls.map prP).getD i .none)) = none := by
    rw [List.find?_eq_none]
    intro i hi
    rw [List.mem_range, List.length_map] at hi
    rw [List.getD_eq_getElem?_getD, List.getElem?_map, List.getElem?_eq_getElem hi]
    show ¬ (!roadOk many (prP ls[i])) = true
    rw [roadOk_pr (h.rd _ (List.getElem_mem hi))]
    simp
  have f2 : (List.range many.toNat).find? (fun (v : Nat) => (ends ((ls.map prP).map unP) (v : Int)).isEmpty) = none := by
    rw [List.find?_eq_none]
    intro v hv
    rw [List.mem_range] at hv
    rw [unP_prP]
    obtain ⟨x, hx, e⟩ := h.pl v (by omega) (by have := h.m1; omega)
    obtain ⟨r, hr, rfl⟩ := List.mem_iff_getElem.mp hx
    have at0 : ∀ sd, atL ls r sd = if sd = 0 then (ls[r]).1 else (ls[r]).2 := fun sd => by
      unfold atL
      rw [List.getD_eq_getElem?_getD, List.getElem?_eq_getElem hr]
      rfl
    have mem : ∃ y, y ∈ ends ls v := by
      unfold ends allE
      rcases e with e | e
      · exact ⟨(r, 0), List.mem_filter.mpr ⟨List.mem_flatMap.mpr ⟨r, List.mem_range.mpr hr, by simp⟩, by rw [at0]; simpa using e⟩⟩
      · exact ⟨(r, 1), List.mem_filter.mpr ⟨List.mem_flatMap.mpr ⟨r, List.mem_range.mpr hr, by simp⟩, by rw [at0]; simpa using e⟩⟩
    obtain ⟨y, hy⟩ := mem
    cases q : ends ls (v : Int) with
    | nil => rw [q] at hy; cases hy
    | cons _ _ => simp
  rw [f1]
  dsimp only
  rw [f2]
theorem fi_pr (k : Nat) (x : Int × Int) : fi (k + 1) (prP x) = true := by cases k <;> rfl
theorem fi_town {b many : Int} {ls : List (Int × Int)} (h : Tw b many ls) (hb : b ≤ 8) : fi 4 (townP many ls) = true := by
  have hl : fi 3 (.list (ls.map prP)) = true := by
    refine fi_all (by rw [List.length_map]; have := h.l2; omega) fun x hx => ?_
    obtain ⟨y, _, rfl⟩ := List.mem_map.mp hx
    rfl
  show (decide (([.int many, .list (ls.map prP)] : List PyData).length ≤ 400) && ([.int many, .list (ls.map prP)] : List PyData).all (fi 3)) = true
  simp only [List.all_cons, List.all_nil, hl, Bool.and_true]
  rfl
/-! ### ends_at -/
def bEndsAt (mt mp en : Nat) : Ss := (.cons (.ex (.call mt (.cons (.v 0) .nil))) (.cons (.ex (.call mp (.cons (.v 0) (.cons (.v 1) .nil)))) (.cons (.ret (.call en (.cons (.v 0) (.cons (.v 1) .nil)))) .nil)))
structure EndsAtF (m t : Nat) (Φ : List D → Sto → R D) : Prop where
  good : ∀ {s : Sto} {many v : Int} {ls : List (Int × Int)}, Tw 8 many ls → 0 ≤ v → v < many → Φ [.p (townP many ls), .p (.int v)] s = .ok (.p (.list ((ends ls v).map enP))) s
  place : ∀ {s : Sto} {many : Int} {ls : List (Int × Int)} {q : PyData}, Tw 8 many ls → noD q = true → plOk many q = false → Φ [.p (townP many ls), .p q] s = .exc ⟨m, none⟩ s
  town : ∀ {s : Sto} {x q : PyData}, fi 4 x = true → twrong x ≠ .none → Φ [.p x, .p q] s = .exc ⟨t, some (.p (twrong x))⟩ s
theorem endsAt_run (P : Pg) {mt mp en m t : Nat} (h1 : MbtF t (P.Φ mt)) (h2 : MbpF m (P.Φ mp)) (h3 : EndsF (P.Φ en)) : EndsAtF m t (fun args s => runB P ⟨2, 2, bEndsAt mt mp en, true⟩ args s) := by
  refine ⟨fun {s many v ls} hT hv hm => run_pure ?_, fun {s many ls q} hT nd hp => run_exc (e := [some (.p (townP many ls)), some (.p q)]) ?_ rfl, fun {s x q} hx hw => run_exc (e := [some (.p x), some (.p q)]) ?_ rfl⟩
  · show exs P (bEndsAt mt mp en) [some (.p (townP many ls)), some (.p (.int v))] s = _
    unfold bEndsAt
    have a1 := (h1 (s := s) (fi_town hT (by decide))).1 (tw_right hT (by decide))
    have a2 := (h2 (s := s) (many := many) (ls := ls) (q := .int v) rfl).1 (decide_eq_true ⟨hv, hm⟩)
    have a3 := h3 (s := s) (many := many) (v := v) (ls := ls) (by have := hT.l2; omega)
    rw [st_ex (by simp only [ev_v, ev_k, ev_g, ev_tup, ev_lst, ev_bin, ev_neg, ev_nt, ev_cmp, ev_chn, ev_an, ev_orr, ev_ife, ev_ix, ev_sl, ev_rev, ev_call, ev_bi, ev_isi, ev_isx, ev_app, ev_ins, ev_frz, ev_fld, evs_nil, evs_cons, evo_no, evo_so, G.R.bind_ok, rOr_some, vr_s, dInt_i, dBool_b, b_add, b_sub, b_pow18, b_pow9, c_lt, c_le, c_gt, c_ge, c_is, c_isn, List.getElem?_cons_succ, List.getElem?_cons_zero, List.set_cons_succ, List.set_cons_zero, brR_t, brR_f, a1] <;> rfl), st_ex (by simp only [ev_v, ev_k, ev_g, ev_tup, ev_lst, ev_bin, ev_neg, ev_nt, ev_cmp, ev_chn, ev_an, ev_orr, ev_ife, ev_ix, ev_sl, ev_rev, ev_call, ev_bi, ev_isi, ev_isx, ev_app, ev_ins, ev_frz, ev_fld, evs_nil, evs_cons, evo_no, evo_so, G.R.bind_ok, rOr_some, vr_s, dInt_i, dBool_b, b_add, b_sub, b_pow18, b_pow9, c_lt, c_le, c_gt, c_ge, c_is, c_isn, List.getElem?_cons_succ, List.getElem?_cons_zero, List.set_cons_succ, List.set_cons_zero, brR_t, brR_f, a2] <;> rfl), st_ret (by simp only [ev_v, ev_k, ev_g, ev_tup, ev_lst, ev_bin, ev_neg, ev_nt, ev_cmp, ev_chn, ev_an, ev_orr, ev_ife, ev_ix, ev_sl, ev_rev, ev_call, ev_bi, ev_isi, ev_isx, ev_app, ev_ins, ev_frz, ev_fld, evs_nil, evs_cons, evo_no, evo_so, G.R.bind_ok, rOr_some, vr_s, dInt_i, dBool_b, b_add, b_sub, b_pow18, b_pow9, c_lt, c_le, c_gt, c_ge, c_is, c_isn, List.getElem?_cons_succ, List.getElem?_cons_zero, List.set_cons_succ, List.set_cons_zero, brR_t, brR_f, a3] <;> rfl)]
  · show exs P (bEndsAt mt mp en) [some (.p (townP many ls)), some (.p q)] s = _
    unfold bEndsAt
    have a1 := (h1 (s := s) (fi_town hT (by decide))).1 (tw_right hT (by decide))
    have a2 := (h2 (s := s) (many := many) (ls := ls) (q := q) nd).2 hp
    rw [st_ex (by simp only [ev_v, ev_k, ev_g, ev_tup, ev_lst, ev_bin, ev_neg, ev_nt, ev_cmp, ev_chn, ev_an, ev_orr, ev_ife, ev_ix, ev_sl, ev_rev, ev_call, ev_bi, ev_isi, ev_isx, ev_app, ev_ins, ev_frz, ev_fld, evs_nil, evs_cons, evo_no, evo_so, G.R.bind_ok, rOr_some, vr_s, dInt_i, dBool_b, b_add, b_sub, b_pow18, b_pow9, c_lt, c_le, c_gt, c_ge, c_is, c_isn, List.getElem?_cons_succ, List.getElem?_cons_zero, List.set_cons_succ, List.set_cons_zero, brR_t, brR_f, a1] <;> rfl), st_exX (by simp only [ev_v, ev_k, ev_g, ev_tup, ev_lst, ev_bin, ev_neg, ev_nt, ev_cmp, ev_chn, ev_an, ev_orr, ev_ife, ev_ix, ev_sl, ev_rev, ev_call, ev_bi, ev_isi, ev_isx, ev_app, ev_ins, ev_frz, ev_fld, evs_nil, evs_cons, evo_no, evo_so, G.R.bind_ok, rOr_some, vr_s, dInt_i, dBool_b, b_add, b_sub, b_pow18, b_pow9, c_lt, c_le, c_gt, c_ge, c_is, c_isn, List.getElem?_cons_succ, List.getElem?_cons_zero, List.set_cons_succ, List.set_cons_zero, brR_t, brR_f, a2] <;> rfl)]
  · show exs P (bEndsAt mt mp en) [some (.p x), some (.p q)] s = _
    unfold bEndsAt
    have a1 := (h1 (s := s) hx).2 hw
    rw [st_exX (by simp only [ev_v, ev_k, ev_g, ev_tup, ev_lst, ev_bin, ev_neg, ev_nt, ev_cmp, ev_chn, ev_an, ev_orr, ev_ife, ev_ix, ev_sl, ev_rev, ev_call, ev_bi, ev_isi, ev_isx, ev_app, ev_ins, ev_frz, ev_fld, evs_nil, evs_cons, evo_no, evo_so, G.R.bind_ok, rOr_some, vr_s, dInt_i, dBool_b, b_add, b_sub, b_pow18, b_pow9, c_lt, c_le, c_gt, c_ge, c_is, c_isn, List.getElem?_cons_succ, List.getElem?_cons_zero, List.set_cons_succ, List.set_cons_zero, brR_t, brR_f, a1] <;> rfl)]
/-! ### _law_refused -/
def bRef (ea m t : Nat) : Ss := (.cons (.asg (.nm 2) (.k .none)) (.cons (.tryC (.cons (.ex (.call ea (.cons (.v 0) (.cons (.v 1) .nil)))) .nil) 0 3 2) (.cons (.ifs (.an (.isx (.v 2) (some t)) (.an (.isx (.v 2) none) (.nt (.isx (.v 2) (some m))))) (.cons (.ret (.lst false (.cons (.k (.str "town")) (.cons (.fld (.v 2) "wrong") .nil)))) .nil) .nil) (.cons (.ret (.lst false (.cons (.isx (.v 2) (some m)) (.cons (.isx (.v 2) none) .nil)))) .nil))))
structure RefF (Φ : List D → Sto → R D) : Prop where
  place : ∀ {s : Sto} {many : Int} {ls : List (Int × Int)} {q : PyData}, Tw 8 many ls → noD q = true → plOk many q = false → Φ [.p (townP many ls), .p q] s = .ok (.p (.list [.bool true, .bool true])) s
  town : ∀ {s : Sto} {x q : PyData}, fi 4 x = true → twrong x ≠ .none → Φ [.p x, .p q] s = .ok (.p (.list [.str "town", twrong x])) s
theorem cut_app (s t : Sto) : cut s (s ++ t) = some s := by
  unfold cut
  rw [if_pos (fun n hn => .inl (List.getElem?_append_left hn)), List.take_left]
theorem run_app {P : Pg} {n N : Nat} {b : Ss} {args : List D} {s t : Sto} {d : PyData} (h : exs P b (args.map some ++ List.replicate (N - args.length) none) s = .rt (.p d) (s ++ t)) : runB P ⟨n, N, b, true⟩ args s = .ok (.p d) s := by
  unfold runB
  show (match exs P b (args.map some ++ List.replicate (N - args.length) none) s with
    | .nx _ s' => finO _ (.p .none) s s'
    | .rt d s' => finO _ d s s'
    | .exc x _ s' => finX x s s'
    | _ => .bad) = _
  rw [h]
  exact finO_p rfl (cut_app s t)
theorem get_app (s : Sto) (x : Option Cell) : (s ++ [x])[s.length]? = some x := by
  rw [List.getElem?_append_right (Nat.le_refl _), Nat.sub_self]
  rfl
theorem isx_own {sb : Nat → Nat → Option Bool} {s : Sto} {n c k : Nat} {pl : Option D} (h : s[n]? = some (some (.exn c pl))) : isiX sb s (.o n) (some k) = sb c k := by
  unfold isiX
  dsimp only
  rw [cel_of h]
theorem isx_ve {sb : Nat → Nat → Option Bool} {s : Sto} {n c : Nat} {pl : Option D} (h : s[n]? = some (some (.exn c pl))) : isiX sb s (.o n) none = (sb c c).map fun _ => true := by
  unfold isiX
  dsimp only
  rw [cel_of h]
theorem fld_wr {sb : Nat → Nat → Option Bool} {s : Sto} {n c : Nat} {d : D} (h : s[n]? = some (some (.exn c (some d)))) (hs : (sb c c).isSome = true) : fldop sb (.o n) "wrong" s = .ok d s := by
  unfold fldop
  dsimp only
  rw [cel_of h]
  dsimp only
  rw [if_pos ⟨rfl, hs⟩]
theorem bR_s (b : Bool) (s : Sto) : bR (some b) s = .ok (.p (.bool b)) s := rfl
theorem ref_run (P : Pg) {ea m t : Nat} (hS : Sb P m t) (h : EndsAtF m t (P.Φ ea)) : RefF (fun args s => runB P ⟨2, 4, bRef ea m t, true⟩ args s) := by
  refine ⟨fun {s many ls q} hT nd hp => run_app (t := [some (.exn m none)]) ?_, fun {s x q} hx hw => run_app (t := [some (.exn t (some (.p (twrong x))))]) ?_⟩
  · show exs P (bRef ea m t) [some (.p (townP many ls)), some (.p q), none, none] s = _
    unfold bRef
    rw [st_asg (by simp only [ev_v, ev_k, ev_g, ev_tup, ev_lst, ev_bin, ev_neg, ev_nt, ev_cmp, ev_chn, ev_an, ev_orr, ev_ife, ev_ix, ev_sl, ev_rev, ev_call, ev_bi, ev_isi, ev_isx, ev_app, ev_ins, ev_frz, ev_fld, evs_nil, evs_cons, evo_no, evo_so, G.R.bind_ok, rOr_some, vr_s, dInt_i, dBool_b, b_add, b_sub, b_pow18, b_pow9, c_lt, c_le, c_gt, c_ge, c_is, c_isn, List.getElem?_cons_succ, List.getElem?_cons_zero, List.set_cons_succ, List.set_cons_zero, brR_t, brR_f] <;> rfl) rfl]
    simp only [List.set_cons_succ, List.set_cons_zero]
    have a1 := h.place (s := s) hT nd hp
    rw [st_try (y := ⟨m, none⟩) (e1 := [some (.p (townP many ls)), some (.p q), some (.p .none), none]) (s1 := s) (st_exX (by simp only [ev_v, ev_k, ev_g, ev_tup, ev_lst, ev_bin, ev_neg, ev_nt, ev_cmp, ev_chn, ev_an, ev_orr, ev_ife, ev_ix, ev_sl, ev_rev, ev_call, ev_bi, ev_isi, ev_isx, ev_app, ev_ins, ev_frz, ev_fld, evs_nil, evs_cons, evo_no, evo_so, G.R.bind_ok, rOr_some, vr_s, dInt_i, dBool_b, b_add, b_sub, b_pow18, b_pow9, c_lt, c_le, c_gt, c_ge, c_is, c_isn, List.getElem?_cons_succ, List.getElem?_cons_zero, List.set_cons_succ, List.set_cons_zero, brR_t, brR_f, a1] <;> rfl)) hS.m0 (by show 3 < 4; decide)]
    simp only [List.set_cons_succ, List.set_cons_zero]
    have g := get_app s (some (.exn m none))
    rw [st_ifF (by simp only [ev_v, ev_k, ev_g, ev_tup, ev_lst, ev_bin, ev_neg, ev_nt, ev_cmp, ev_chn, ev_an, ev_orr, ev_ife, ev_ix, ev_sl, ev_rev, ev_call, ev_bi, ev_isi, ev_isx, ev_app, ev_ins, ev_frz, ev_fld, evs_nil, evs_cons, evo_no, evo_so, G.R.bind_ok, rOr_some, vr_s, dInt_i, dBool_b, b_add, b_sub, b_pow18, b_pow9, c_lt, c_le, c_gt, c_ge, c_is, c_isn, List.getElem?_cons_succ, List.getElem?_cons_zero, List.set_cons_succ, List.set_cons_zero, brR_t, brR_f, isx_own g, hS.mt, bR_s] <;> rfl), st_nil, RS.nxt_nx]
    rw [st_ret (by simp only [ev_v, ev_k, ev_g, ev_tup, ev_lst, ev_bin, ev_neg, ev_nt, ev_cmp, ev_chn, ev_an, ev_orr, ev_ife, ev_ix, ev_sl, ev_rev, ev_call, ev_bi, ev_isi, ev_isx, ev_app, ev_ins, ev_frz, ev_fld, evs_nil, evs_cons, evo_no, evo_so, G.R.bind_ok, rOr_some, vr_s, dInt_i, dBool_b, b_add, b_sub, b_pow18, b_pow9, c_lt, c_le, c_gt, c_ge, c_is, c_isn, List.getElem?_cons_succ, List.getElem?_cons_zero, List.set_cons_succ, List.set_cons_zero, brR_t, brR_f, isx_own g, isx_ve g, hS.mm, Option.map_some, bR_s, mkL_2] <;> rfl)]
  · show exs P (bRef ea m t) [some (.p x), some (.p q), none, none] s = _
    unfold bRef
    rw [st_asg (by simp only [ev_v, ev_k, ev_g, ev_tup, ev_lst, ev_bin, ev_neg, ev_nt, ev_cmp, ev_chn, ev_an, ev_orr, ev_ife, ev_ix, ev_sl, ev_rev, ev_call, ev_bi, ev_isi, ev_isx, ev_app, ev_ins, ev_frz, ev_fld, evs_nil, evs_cons, evo_no, evo_so, G.R.bind_ok, rOr_some, vr_s, dInt_i, dBool_b, b_add, b_sub, b_pow18, b_pow9, c_lt, c_le, c_gt, c_ge, c_is, c_isn, List.getElem?_cons_succ, List.getElem?_cons_zero, List.set_cons_succ, List.set_cons_zero, brR_t, brR_f] <;> rfl) rfl]
    simp only [List.set_cons_succ, List.set_cons_zero]
    have a1 := h.town (s := s) (q := q) hx hw
    rw [st_try (y := ⟨t, some (.p (twrong x))⟩) (e1 := [some (.p x), some (.p q), some (.p .none), none]) (s1 := s) (st_exX (by simp only [ev_v, ev_k, ev_g, ev_tup, ev_lst, ev_bin, ev_neg, ev_nt, ev_cmp, ev_chn, ev_an, ev_orr, ev_ife, ev_ix, ev_sl, ev_rev, ev_call, ev_bi, ev_isi, ev_isx, ev_app, ev_ins, ev_frz, ev_fld, evs_nil, evs_cons, evo_no, evo_so, G.R.bind_ok, rOr_some, vr_s, dInt_i, dBool_b, b_add, b_sub, b_pow18, b_pow9, c_lt, c_le, c_gt, c_ge, c_is, c_isn, List.getElem?_cons_succ, List.getElem?_cons_zero, List.set_cons_succ, List.set_cons_zero, brR_t, brR_f, a1] <;> rfl)) hS.t0 (by show 3 < 4; decide)]
    simp only [List.set_cons_succ, List.set_cons_zero]
    have g := get_app s (some (.exn t (some (.p (twrong x)))))
    rw [st_ifT (by simp only [ev_v, ev_k, ev_g, ev_tup, ev_lst, ev_bin, ev_neg, ev_nt, ev_cmp, ev_chn, ev_an, ev_orr, ev_ife, ev_ix, ev_sl, ev_rev, ev_call, ev_bi, ev_isi, ev_isx, ev_app, ev_ins, ev_frz, ev_fld, evs_nil, evs_cons, evo_no, evo_so, G.R.bind_ok, rOr_some, vr_s, dInt_i, dBool_b, b_add, b_sub, b_pow18, b_pow9, c_lt, c_le, c_gt, c_ge, c_is, c_isn, List.getElem?_cons_succ, List.getElem?_cons_zero, List.set_cons_succ, List.set_cons_zero, brR_t, brR_f, isx_own g, isx_ve g, hS.tt, hS.tm, Option.map_some, bR_s, Bool.not_false] <;> rfl)]
    rw [st_ret (by simp only [ev_v, ev_k, ev_g, ev_tup, ev_lst, ev_bin, ev_neg, ev_nt, ev_cmp, ev_chn, ev_an, ev_orr, ev_ife, ev_ix, ev_sl, ev_rev, ev_call, ev_bi, ev_isi, ev_isx, ev_app, ev_ins, ev_frz, ev_fld, evs_nil, evs_cons, evo_no, evo_so, G.R.bind_ok, rOr_some, vr_s, dInt_i, dBool_b, b_add, b_sub, b_pow18, b_pow9, c_lt, c_le, c_gt, c_ge, c_is, c_isn, List.getElem?_cons_succ, List.getElem?_cons_zero, List.set_cons_succ, List.set_cons_zero, brR_t, brR_f, fld_wr (sb := P.sb) g (show (P.sb t t).isSome = true from by rw [hS.tt]; rfl), mkL_2] <;> rfl), RS.nxt_rt]
end
end G

namespace G
open PySem PySem.Spec PyProof.Rows L2
open Classical
noncomputable section
/-! ### the purse -/
def bPurse : Ss := (.cons (.asg (.nm 1) (.sl true (.v 0) .no (.so (.k (.int 63))))) (.cons (.for_ (.nm 2) (.rng (.bi .len false (.v 1))) (.cons (.ifs (.cmp .ge (.bi .abs false (.ix (.v 1) (.v 2))) (.bin .pow false (.k (.int 10)) (.k (.int 18)))) (.cons (.seti (.v 1) (.v 2) (.bin .mod false (.ix (.v 1) (.v 2)) (.bin .pow false (.bin .pow false (.k (.int 10)) (.k (.int 60))) (.k (.int 20))))) .nil) .nil) .nil)) (.cons (.ifs (.cmp .eq (.v 1) (.lst false .nil)) (.cons (.asg (.nm 1) (.lst true (.cons (.k (.int 0)) .nil))) .nil) .nil) (.cons (.ret (.lst false (.cons (.v 1) (.cons (.k (.int 0)) .nil)))) .nil))))
def PurseF (Φ : List D → Sto → R D) : Prop := ∀ ns : List Int, ns.length ≤ 63 → ∃ (p c : Nat) (s' : Sto), Φ [.s (ns.map PyData.int)] [] = .ok (.o p) s' ∧ Pu s' p c 1000000000
theorem cut63 {xs : List D} (h : xs.length ≤ 63) : cutD xs none (some 63) = xs := by
  unfold cutD
  have e1 : HT.sIx xs.length 0 none = 0 := by simp [HT.sIx]
  have e2 : HT.sIx xs.length xs.length (some 63) = xs.length := by
    simp [HT.sIx]
    omega
  rw [e1, e2, List.drop_zero, Nat.sub_zero, List.take_length]
theorem l_abs {fl : Bool} {s : Sto} (i : Int) : biop .abs fl (.p (.int i)) s = .ok (.p (.int (if i < 0 then -i else i))) s := rfl
theorem mapO_ints {f : D → Option PyData} (hf : ∀ i : Int, f (.p (.int i)) = some (.int i)) : ∀ l : List Int, mapO f (iD l) = some (l.map PyData.int)
  | [] => rfl
  | i :: l => by
    have ih := mapO_ints hf l
    unfold iD at ih ⊢
    simp only [List.map_cons, mapO, hf, ih]
theorem ints_shaped (l : List Int) : SeqAt.shaped (.list (l.map PyData.int)) = true := by
  have : PyData.canLayAll0 (l.map PyData.int) = true ∧ PyData.depthAll (l.map PyData.int) = 0 := by
    induction l with
    | nil => exact ⟨rfl, rfl⟩
    | cons i l ih =>
      refine ⟨?_, ?_⟩
      · show (PyData.canLay0 (.int i) && PyData.canLayAll0 (l.map PyData.int)) = true
        rw [ih.1]; rfl
      · show max 0 (PyData.depthAll (l.map PyData.int)) = 0
        rw [ih.2]; rfl
  show (PyData.canLayAll0 (l.map PyData.int) && decide (PyData.depthAll (l.map PyData.int) + 1 ≤ 64)) = true
  rw [this.1, this.2]
  rfl
theorem eq_cells {s : Sto} {n : Nat} {l : List Int} (h : s[n]? = some (some (.lst (iD l)))) : cmpop .eq (.o n) (.p (.list [])) s = .ok (.p (.bool l.isEmpty)) s := by
  have e : res 8 s (.o n) = some (.list (l.map PyData.int)) := by
    unfold res
    rw [cel_of h]
    simp only [mapO_ints (fun i => res_p 7 s (.int i)) l, Option.map_some]
  unfold cmpop sEq sEs sEr
  dsimp only
  rw [e, res_p]
  dsimp only
  rw [if_pos ⟨ints_shaped l, nil_shaped⟩, eqv_nil, List.isEmpty_map]
  rfl
theorem purse_run (P : Pg) : PurseF (fun args s => runB P ⟨1, 3, bPurse, false⟩ args s) := by
  intro ns hn
  have lim : LIM = 1000000 := rfl
  have hl : (ns.map PyData.int).map D.p = iD ns := by
    unfold iD
    rw [List.map_map]
    rfl
  have e0 : slop true (.s (ns.map PyData.int)) none (some 63) [] = .ok (.o 0) [some (.lst (iD ns))] := by
    show mkL true (cutD ((ns.map PyData.int).map D.p) none (some 63)) [] = _
    rw [hl, cut63 (by rw [iD_len]; exact hn), mkL_c _ _ (by rw [iD_len]; omega)]
    rfl
  let F : Item → Env → Sto → RS := fun x e1 s2 => bindS (.nm 2) x s2 e1 fun e2 => exs P (.cons (.ifs (.cmp .ge (.bi .abs false (.ix (.v 1) (.v 2))) (.bin .pow false (.k (.int 10)) (.k (.int 18)))) (.cons (.seti (.v 1) (.v 2) (.bin .mod false (.ix (.v 1) (.v 2)) (.bin .pow false (.bin .pow false (.k (.int 10)) (.k (.int 60))) (.k (.int 20))))) .nil) .nil) .nil) e2 s2
  let I : Nat → Env → Sto → Prop := fun i e s2 => (∃ z, e = [some (.s (ns.map PyData.int)), some (.o 0), z]) ∧ ∃ l : List Int, l.length = ns.length ∧ s2 = [some (.lst (iD l))]
  have step : ∀ (i : Nat) (x : Item) (e : Env) (s2 : Sto), ((List.range ns.length).map fun (k : Nat) => Item.one (.p (.int (k : Int))))[i]? = some x → I i e s2 → ∃ e' s', F x e s2 = .nx e' s' ∧ I (i + 1) e' s' := by
    rintro i x e s2 hx ⟨⟨z, rfl⟩, l, hll, rfl⟩
    obtain ⟨hi, rfl⟩ := rng_get hx
    have hil : i < l.length := by omega
    have c0 : ([some (.lst (iD l))] : Sto)[0]? = some (some (.lst (iD l))) := rfl
    have g := i_ix (s := [some (.lst (iD l))]) (asSq_o c0) (atI_nat (iD_get hil))
    by_cases q : (1000000000000000000 : Int) ≤ (if l[i] < 0 then -l[i] else l[i])
    · refine ⟨[some (.s (ns.map PyData.int)), some (.o 0), some (.p (.int (i : Int)))], [some (.lst (iD (l.set i (l[i] % (10 ^ Int.toNat 60) ^ Int.toNat 20))))], ?_, ⟨_, rfl⟩, _, by rw [List.length_set]; exact hll, rfl⟩
      show exs P _ [some (.s (ns.map PyData.int)), some (.o 0), some (.p (.int (i : Int)))] [some (.lst (iD l))] = _
      rw [st_ifT (by simp only [ev_v, ev_k, ev_g, ev_tup, ev_lst, ev_bin, ev_neg, ev_nt, ev_cmp, ev_chn, ev_an, ev_orr, ev_ife, ev_ix, ev_sl, ev_rev, ev_call, ev_bi, ev_isi, ev_isx, ev_app, ev_ins, ev_frz, ev_fld, evs_nil, evs_cons, evo_no, evo_so, G.R.bind_ok, rOr_some, vr_s, dInt_i, dBool_b, b_add, b_sub, b_pow18, b_pow9, c_lt, c_le, c_gt, c_ge, c_is, c_isn, List.getElem?_cons_succ, List.getElem?_cons_zero, List.set_cons_succ, List.set_cons_zero, brR_t, brR_f, g, l_abs, decide_eq_true q] <;> rfl)]
      rw [st_seti (by simp only [ev_v, ev_k, ev_g, ev_tup, ev_lst, ev_bin, ev_neg, ev_nt, ev_cmp, ev_chn, ev_an, ev_orr, ev_ife, ev_ix, ev_sl, ev_rev, ev_call, ev_bi, ev_isi, ev_isx, ev_app, ev_ins, ev_frz, ev_fld, evs_nil, evs_cons, evo_no, evo_so, G.R.bind_ok, rOr_some, vr_s, dInt_i, dBool_b, b_add, b_sub, b_pow18, b_pow9, c_lt, c_le, c_gt, c_ge, c_is, c_isn, List.getElem?_cons_succ, List.getElem?_cons_zero, List.set_cons_succ, List.set_cons_zero, brR_t, brR_f, g, b_pow false (i := 10) (j := 60) (by decide +kernel), b_pow false (i := 10 ^ Int.toNat 60) (j := 20) (by decide +kernel), b_mod false (i := l[i]) (j := (10 ^ Int.toNat 60) ^ Int.toNat 20) (by decide +kernel)] <;> rfl) (by simp only [ev_v, ev_k, ev_g, ev_tup, ev_lst, ev_bin, ev_neg, ev_nt, ev_cmp, ev_chn, ev_an, ev_orr, ev_ife, ev_ix, ev_sl, ev_rev, ev_call, ev_bi, ev_isi, ev_isx, ev_app, ev_ins, ev_frz, ev_fld, evs_nil, evs_cons, evo_no, evo_so, G.R.bind_ok, rOr_some, vr_s, dInt_i, dBool_b, b_add, b_sub, b_pow18, b_pow9, c_lt, c_le, c_gt, c_ge, c_is, c_isn, List.getElem?_cons_succ, List.getElem?_cons_zero, List.set_cons_succ, List.set_cons_zero, brR_t, brR_f] <;> rfl) (by simp only [ev_v, ev_k, ev_g, ev_tup, ev_lst, ev_bin, ev_neg, ev_nt, ev_cmp, ev_chn, ev_an, ev_orr, ev_ife, ev_ix, ev_sl, ev_rev, ev_call, ev_bi, ev_isi, ev_isx, ev_app, ev_ins, ev_frz, ev_fld, evs_nil, evs_cons, evo_no, evo_so, G.R.bind_ok, rOr_some, vr_s, dInt_i, dBool_b, b_add, b_sub, b_pow18, b_pow9, c_lt, c_le, c_gt, c_ge, c_is, c_isn, List.getElem?_cons_succ, List.getElem?_cons_zero, List.set_cons_succ, List.set_cons_zero, brR_t, brR_f] <;> rfl) (s_set c0 (ixN_nat (by rw [iD_len]; exact hil))), st_nil, RS.nxt_nx, st_nil, iD_set]
      rfl
    · refine ⟨[some (.s (ns.map PyData.int)), some (.o 0), some (.p (.int (i : Int)))], [some (.lst (iD l))], ?_, ⟨_, rfl⟩, l, hll, rfl⟩
      show exs P _ [some (.s (ns.map PyData.int)), some (.o 0), some (.p (.int (i : Int)))] [some (.lst (iD l))] = _
      rw [st_ifF (by simp only [ev_v, ev_k, ev_g, ev_tup, ev_lst, ev_bin, ev_neg, ev_nt, ev_cmp, ev_chn, ev_an, ev_orr, ev_ife, ev_ix, ev_sl, ev_rev, ev_call, ev_bi, ev_isi, ev_isx, ev_app, ev_ins, ev_frz, ev_fld, evs_nil, evs_cons, evo_no, evo_so, G.R.bind_ok, rOr_some, vr_s, dInt_i, dBool_b, b_add, b_sub, b_pow18, b_pow9, c_lt, c_le, c_gt, c_ge, c_is, c_isn, List.getElem?_cons_succ, List.getElem?_cons_zero, List.set_cons_succ, List.set_cons_zero, brR_t, brR_f, g, l_abs, decide_eq_false q] <;> rfl), st_nil, RS.nxt_nx, st_nil]
  obtain ⟨e', s', hf, ⟨z, rfl⟩, l, hll, rfl⟩ := forL_inv (f := F) I step (e := [some (.s (ns.map PyData.int)), some (.o 0), none]) (s := [some (.lst (iD ns))]) ⟨⟨_, rfl⟩, ns, rfl, rfl⟩
  have c0 : ([some (.lst (iD l))] : Sto)[0]? = some (some (.lst (iD l))) := rfl
  have c00 : ([some (.lst (iD ns))] : Sto)[0]? = some (some (.lst (iD ns))) := rfl
  have hev : evi P (.rng (.bi .len false (.v 1))) [some (.s (ns.map PyData.int)), some (.o 0), none] [some (.lst (iD ns))] = .ok ((List.range ns.length).map fun (k : Nat) => Item.one (.p (.int (k : Int)))) [some (.lst (iD ns))] := by
    have := r_rng (P := P) (e := [some (.s (ns.map PyData.int)), some (.o 0), none]) (s := [some (.lst (iD ns))]) (s1 := [some (.lst (iD ns))]) (a := .bi .len false (.v 1)) (i := (ns.length : Int)) (by simp only [ev_v, ev_k, ev_g, ev_tup, ev_lst, ev_bin, ev_neg, ev_nt, ev_cmp, ev_chn, ev_an, ev_orr, ev_ife, ev_ix, ev_sl, ev_rev, ev_call, ev_bi, ev_isi, ev_isx, ev_app, ev_ins, ev_frz, ev_fld, evs_nil, evs_cons, evo_no, evo_so, G.R.bind_ok, rOr_some, vr_s, dInt_i, dBool_b, b_add, b_sub, b_pow18, b_pow9, c_lt, c_le, c_gt, c_ge, c_is, c_isn, List.getElem?_cons_succ, List.getElem?_cons_zero, List.set_cons_succ, List.set_cons_zero, brR_t, brR_f, l_len false (asSq_o c00), iD_len]) (by omega) (by omega)
    rw [this]
    simp
  have raw : ∀ {d : D} {s2 : Sto}, exs P bPurse [some (.s (ns.map PyData.int)), none, none] [] = .rt d s2 → runB P ⟨1, 3, bPurse, false⟩ [.s (ns.map PyData.int)] [] = .ok d s2 := fun {d s2} h => by
    unfold runB
    have h' : exs P bPurse (([.s (ns.map PyData.int)] : List D).map some ++ List.replicate (3 - ([.s (ns.map PyData.int)] : List D).length) none) [] = .rt d s2 := h
    show (match exs P bPurse _ [] with
      | .nx _ s' => finO _ (.p .none) _ s'
      | .rt d s' => finO _ d _ s'
      | .exc x _ s' => finX x _ s'
      | _ => .bad) = _
    rw [h']
    rfl
  cases hz : l.isEmpty with
  | true =>
    have lz : l = [] := List.isEmpty_iff.mp hz
    refine ⟨2, 1, [some (.lst (iD l)), some (.lst (iD [0])), some (.lst [.o 1, .p (.int 0)])], raw ?_, by decide, [0], 0, rfl, rfl, by simp, by simp, by omega, by omega⟩
    unfold bPurse
    rw [st_asg (by simp only [ev_v, ev_k, ev_g, ev_tup, ev_lst, ev_bin, ev_neg, ev_nt, ev_cmp, ev_chn, ev_an, ev_orr, ev_ife, ev_ix, ev_sl, ev_rev, ev_call, ev_bi, ev_isi, ev_isx, ev_app, ev_ins, ev_frz, ev_fld, evs_nil, evs_cons, evo_no, evo_so, G.R.bind_ok, rOr_some, vr_s, dInt_i, dBool_b, b_add, b_sub, b_pow18, b_pow9, c_lt, c_le, c_gt, c_ge, c_is, c_isn, List.getElem?_cons_succ, List.getElem?_cons_zero, List.set_cons_succ, List.set_cons_zero, brR_t, brR_f, e0] <;> rfl) rfl]
    simp only [List.set_cons_succ, List.set_cons_zero]
    rw [st_for hev hf]
    rw [st_ifT (by simp only [ev_v, ev_k, ev_g, ev_tup, ev_lst, ev_bin, ev_neg, ev_nt, ev_cmp, ev_chn, ev_an, ev_orr, ev_ife, ev_ix, ev_sl, ev_rev, ev_call, ev_bi, ev_isi, ev_isx, ev_app, ev_ins, ev_frz, ev_fld, evs_nil, evs_cons, evo_no, evo_so, G.R.bind_ok, rOr_some, vr_s, dInt_i, dBool_b, b_add, b_sub, b_pow18, b_pow9, c_lt, c_le, c_gt, c_ge, c_is, c_isn, List.getElem?_cons_succ, List.getElem?_cons_zero, List.set_cons_succ, List.set_cons_zero, brR_t, brR_f, mkL_0, eq_cells c0, hz] <;> rfl), st_asg (by simp only [ev_v, ev_k, ev_g, ev_tup, ev_lst, ev_bin, ev_neg, ev_nt, ev_cmp, ev_chn, ev_an, ev_orr, ev_ife, ev_ix, ev_sl, ev_rev, ev_call, ev_bi, ev_isi, ev_isx, ev_app, ev_ins, ev_frz, ev_fld, evs_nil, evs_cons, evo_no, evo_so, G.R.bind_ok, rOr_some, vr_s, dInt_i, dBool_b, b_add, b_sub, b_pow18, b_pow9, c_lt, c_le, c_gt, c_ge, c_is, c_isn, List.getElem?_cons_succ, List.getElem?_cons_zero, List.set_cons_succ, List.set_cons_zero, brR_t, brR_f, mkL_c [.p (.int 0)] [some (.lst (iD l))] (by show 1 ≤ 1000000; decide)] <;> rfl) rfl, st_nil, RS.nxt_nx]
    simp only [List.set_cons_succ, List.set_cons_zero]
    rw [st_ret (by simp only [ev_v, ev_k, ev_g, ev_tup, ev_lst, ev_bin, ev_neg, ev_nt, ev_cmp, ev_chn, ev_an, ev_orr, ev_ife, ev_ix, ev_sl, ev_rev, ev_call, ev_bi, ev_isi, ev_isx, ev_app, ev_ins, ev_frz, ev_fld, evs_nil, evs_cons, evo_no, evo_so, G.R.bind_ok, rOr_some, vr_s, dInt_i, dBool_b, b_add, b_sub, b_pow18, b_pow9, c_lt, c_le, c_gt, c_ge, c_is, c_isn, List.getElem?_cons_succ, List.getElem?_cons_zero, List.set_cons_succ, List.set_cons_zero, brR_t, brR_f] <;> rfl)]
    rfl
  | false =>
    refine ⟨1, 0, [some (.lst (iD l)), some (.lst [.o 0, .p (.int 0)])], raw ?_, by decide, l, 0, rfl, rfl, (by intro q; rw [q] at hz; cases hz), by omega, by omega, by omega⟩
    unfold bPurse
    rw [st_asg (by simp only [ev_v, ev_k, ev_g, ev_tup, ev_lst, ev_bin, ev_neg, ev_nt, ev_cmp, ev_chn, ev_an, ev_orr, ev_ife, ev_ix, ev_sl, ev_rev, ev_call, ev_bi, ev_isi, ev_isx, ev_app, ev_ins, ev_frz, ev_fld, evs_nil, evs_cons, evo_no, evo_so, G.R.bind_ok, rOr_some, vr_s, dInt_i, dBool_b, b_add, b_sub, b_pow18, b_pow9, c_lt, c_le, c_gt, c_ge, c_is, c_isn, List.getElem?_cons_succ, List.getElem?_cons_zero, List.set_cons_succ, List.set_cons_zero, brR_t, brR_f, e0] <;> rfl) rfl]
    simp only [List.set_cons_succ, List.set_cons_zero]
    rw [st_for hev hf]
    rw [st_ifF (by simp only [ev_v, ev_k, ev_g, ev_tup, ev_lst, ev_bin, ev_neg, ev_nt, ev_cmp, ev_chn, ev_an, ev_orr, ev_ife, ev_ix, ev_sl, ev_rev, ev_call, ev_bi, ev_isi, ev_isx, ev_app, ev_ins, ev_frz, ev_fld, evs_nil, evs_cons, evo_no, evo_so, G.R.bind_ok, rOr_some, vr_s, dInt_i, dBool_b, b_add, b_sub, b_pow18, b_pow9, c_lt, c_le, c_gt, c_ge, c_is, c_isn, List.getElem?_cons_succ, List.getElem?_cons_zero, List.set_cons_succ, List.set_cons_zero, brR_t, brR_f, mkL_0, eq_cells c0, hz] <;> rfl), st_nil, RS.nxt_nx]
    rw [st_ret (by simp only [ev_v, ev_k, ev_g, ev_tup, ev_lst, ev_bin, ev_neg, ev_nt, ev_cmp, ev_chn, ev_an, ev_orr, ev_ife, ev_ix, ev_sl, ev_rev, ev_call, ev_bi, ev_isi, ev_isx, ev_app, ev_ins, ev_frz, ev_fld, evs_nil, evs_cons, evo_no, evo_so, G.R.bind_ok, rOr_some, vr_s, dInt_i, dBool_b, b_add, b_sub, b_pow18, b_pow9, c_lt, c_le, c_gt, c_ge, c_is, c_isn, List.getElem?_cons_succ, List.getElem?_cons_zero, List.set_cons_succ, List.set_cons_zero, brR_t, brR_f] <;> rfl)]
    rfl
end
end G

namespace G
open PySem PySem.Spec PyProof.Rows L2
open Classical
noncomputable section
/-! ### things that may be told by repr -/
def lfB : PyData → Bool
  | .none => true
  | .bool _ => true
  | .int i => decide (i.natAbs < 10 ^ 21)
  | .str x => PyData.canLay0 (.str x) && decide (x.length ≤ 5)
  | _ => false
/-- at most so many parts at each depth -/
def rp : List Nat → PyData → Bool
  | n :: ns, .list xs => decide (xs.length ≤ n) && xs.all (rp ns)
  | n :: ns, .tuple xs => decide (xs.length ≤ n) && xs.all (rp ns)
  | _, q => lfB q
theorem rp_lst {n : Nat} {ns : List Nat} {l : List PyData} : rp (n :: ns) (.list l) = true ↔ l.length ≤ n ∧ ∀ x ∈ l, rp ns x = true := by
  show (decide (l.length ≤ n) && l.all (rp ns)) = true ↔ _
  simp only [Bool.and_eq_true, decide_eq_true_eq, List.all_eq_true]
theorem rp_tup {n : Nat} {ns : List Nat} {l : List PyData} : rp (n :: ns) (.tuple l) = true ↔ l.length ≤ n ∧ ∀ x ∈ l, rp ns x = true := by
  show (decide (l.length ≤ n) && l.all (rp ns)) = true ↔ _
  simp only [Bool.and_eq_true, decide_eq_true_eq, List.all_eq_true]
theorem rp_lf {ns : List Nat} {q : PyData} (h : lfB q = true) : rp ns q = true := by
  cases ns <;> cases q <;> first | exact h | cases h
/-- the weight that goes with the bounds -/
def rw_ : List Nat → Nat
  | [] => 70
  | n :: ns => n * (rw_ ns + 1) + 70
structure RpG (w d : Nat) (q : PyData) : Prop where
  sh : q.showable = true
  nd : q.hasDict = false
  dp : q.depth ≤ d
  wt : q.weight ≤ w
  lv : q.leavesShort 60 = true
theorem lf_g {q : PyData} (h : lfB q = true) : RpG 70 0 q := by
  cases q with
  | none => exact ⟨rfl, rfl, Nat.le_refl _, Nat.zero_le _, by decide⟩
  | bool b => exact ⟨rfl, rfl, Nat.le_refl _, Nat.zero_le _, by cases b <;> decide⟩
  | int i =>
    have hi : i.natAbs < 10 ^ 21 := of_decide_eq_true h
    have lg : i.natAbs ≠ 0 → i.natAbs.log2 < 70 := fun z => by
      rw [Nat.log2_lt z]
      exact Nat.lt_of_lt_of_le hi (by decide)
    have l0 : i.natAbs.log2 < 70 := by
      by_cases z : i.natAbs = 0
      · rw [z]; decide
      · exact lg z
    refine ⟨decide_eq_true (by omega), rfl, Nat.le_refl _, ?_, ?_⟩
    · show (if i == 0 then 0 else i.natAbs.log2 + 1) ≤ 70
      split <;> omega
    · refine decide_eq_true ?_
      show (Str.ofString (toString i)).length ≤ 60
      rw [PySem.ofString_length]
      have := int_text_length_le10 (k := 21) (by decide) hi
      omega
  | str x =>
    have h' : (PyData.canLay0 (.str x) && decide (x.length ≤ 5)) = true := h
    simp only [Bool.and_eq_true, decide_eq_true_eq] at h'
    refine ⟨rfl, rfl, Nat.le_refl _, ?_, ?_⟩
    · show x.cps.size ≤ 70
      have : x.cps.size = x.length := rfl
      omega
    · exact PyData.leavesShort_of_canLay0 60 (.str x) h'.1 rfl
  | list l => cases h
  | tuple l => cases h
  | dict l => cases h
theorem all_g {w d : Nat} : ∀ {l : List PyData}, (∀ x ∈ l, RpG w d x) → PyData.showableAll l = true ∧ PyData.hasDictAll l = false ∧ PyData.depthAll l ≤ d ∧ PyData.weightAll l ≤ l.length * (w + 1) ∧ PyData.leavesShortAll 60 l = true
  | [], _ => ⟨rfl, rfl, Nat.zero_le _, Nat.zero_le _, rfl⟩
  | x :: l, h => by
    obtain ⟨a1, a2, a3, a4, a5⟩ := h x List.mem_cons_self
    obtain ⟨b1, b2, b3, b4, b5⟩ := all_g (l := l) fun y hy => h y (List.mem_cons_of_mem _ hy)
    refine ⟨?_, ?_, ?_, ?_, ?_⟩
    · show (x.showable && PyData.showableAll l) = true
      rw [a1, b1]; rfl
    · show (x.hasDict || PyData.hasDictAll l) = false
      rw [a2, b2]; rfl
    · show max x.depth (PyData.depthAll l) ≤ d
      omega
    · show x.weight + 1 + PyData.weightAll l ≤ (l.length + 1) * (w + 1)
      rw [Nat.add_mul]
      omega
    · show (x.leavesShort 60 && PyData.leavesShortAll 60 l) = true
      rw [a5, b5]; rfl
theorem rp_g : ∀ (ns : List Nat) (q : PyData), rp ns q = true → RpG (rw_ ns) ns.length q := by
  intro ns
  induction ns with
  | nil =>
    intro q h
    exact lf_g (by cases q <;> exact h)
  | cons n ns ih =>
    intro q h
    have leaf : lfB q = true → RpG (rw_ (n :: ns)) (n :: ns).length q := fun h => by
      obtain ⟨a1, a2, a3, a4, a5⟩ := lf_g h
      exact ⟨a1, a2, Nat.le_trans a3 (Nat.zero_le _), Nat.le_trans a4 (Nat.le_add_left _ _), a5⟩
    cases q with
    | list l =>
      obtain ⟨h1, h2⟩ := rp_lst.mp h
      obtain ⟨a1, a2, a3, a4, a5⟩ := all_g fun x hx => ih x (h2 x hx)
      have := Nat.mul_le_mul_right (rw_ ns + 1) h1
      exact ⟨a1, a2, Nat.succ_le_succ a3, show PyData.weightAll l ≤ n * (rw_ ns + 1) + 70 by omega, a5⟩
    | tuple l =>
      obtain ⟨h1, h2⟩ := rp_tup.mp h
      obtain ⟨a1, a2, a3, a4, a5⟩ := all_g fun x hx => ih x (h2 x hx)
      have := Nat.mul_le_mul_right (rw_ ns + 1) h1
      exact ⟨a1, a2, Nat.succ_le_succ a3, show PyData.weightAll l ≤ n * (rw_ ns + 1) + 70 by omega, a5⟩
    | none => exact leaf h
    | bool b => exact leaf h
    | int i => exact leaf h
    | str x => exact leaf h
    | dict l => exact leaf h
theorem rp_ok {ns : List Nat} {q : PyData} (h : rp ns q = true) (hd : ns.length ≤ 60) (hw : 62 * rw_ ns + 60 ≤ 16777216) : RpOk q := by
  obtain ⟨a1, a2, a3, a4, a5⟩ := rp_g ns q h
  refine ⟨a1, a2, by omega, ?_⟩
  have := PyData.shown_le 60 (by decide) q a5
  have h2 : (60 + 2) * q.weight ≤ 62 * rw_ ns := Nat.mul_le_mul_left 62 a4
  rw [sizeLine_eq]
  omega
theorem r_repr {fl : Bool} {s : Sto} {q : PyData} (h : RpOk q) : biop .repr fl (.p q) s = .ok (.p (.str q.shown)) s := by
  unfold biop
  simp only [res_p]
  exact if_pos h
end
end G

namespace G
open PySem PySem.Spec PyProof.Rows L2
open Classical
noncomputable section
/-! ### towns bent -/
def bTail (d pk : Nat) : Ss := (.cons (.ifs (.cmp .eq (.v 3) (.k (.int 0))) (.cons (.asg (.nm 8) (.lst false (.cons (.k .none) (.cons (.lst false (.cons (.v 6) (.cons (.v 7) .nil))) (.cons (.tup (.cons (.v 6) .nil)) (.cons (.tup (.cons (.v 6) (.cons (.v 7) (.cons (.k (.int 0)) .nil)))) (.cons (.v 7) (.cons (.v 6) (.cons (.k (.str "town")) (.cons (.tup (.cons (.v 7) (.cons (.v 6) .nil))) (.cons (.tup .nil) .nil))))))))))) (.cons (.ret (.ix (.v 8) (.call d (.cons (.v 0) (.cons (.k (.int 9)) .nil))))) .nil)) .nil) (.cons (.ifs (.cmp .eq (.v 3) (.k (.int 1))) (.cons (.ret (.tup (.cons (.ix (.lst false (.cons (.bin .add false (.v 6) (.k (.int 1))) (.cons (.k (.int 0)) (.cons (.k (.int 9)) (.cons (.neg (.k (.int 1))) (.cons (.k (.bool true)) (.cons (.k .none) (.cons (.k (.str "3")) (.cons (.bin .add false (.v 6) (.bin .pow false (.k (.int 10)) (.k (.int 20)))) (.cons (.bin .sub false (.v 6) (.k (.int 1))) .nil)))))))))) (.call d (.cons (.v 0) (.cons (.k (.int 9)) .nil)))) (.cons (.v 7) .nil)))) .nil) .nil) (.cons (.ifs (.cmp .eq (.v 3) (.k (.int 2))) (.cons (.asg (.nm 8) (.lst false (.cons (.lst false .nil) (.cons (.bi .tuple false (.v 7)) (.cons (.k .none) (.cons (.sl false (.bin .mul false (.v 7) (.k (.int 17))) .no (.so (.k (.int 17)))) (.cons (.sl false (.bin .mul false (.v 7) (.k (.int 17))) .no (.so (.k (.int 16)))) (.cons (.k (.str "roads")) .nil)))))))) (.cons (.ret (.tup (.cons (.v 6) (.cons (.ix (.bin .add false (.v 8) (.lst false (.cons (.bin .add false (.sl false (.bin .mul false (.v 7) (.k (.int 17))) .no (.so (.k (.int 16)))) (.lst false (.cons (.call pk (.cons (.v 0) (.cons (.v 2) .nil))) .nil))) .nil))) (.call d (.cons (.v 0) (.cons (.k (.int 7)) .nil)))) .nil)))) .nil)) .nil) (.cons (.ifs (.cmp .eq (.v 3) (.k (.int 3))) (.cons (.asg (.nm 9) (.call d (.cons (.v 0) (.cons (.bi .len false (.v 7)) .nil)))) (.cons (.ret (.tup (.cons (.v 6) (.cons (.bin .add false (.sl false (.v 7) .no (.so (.v 9))) (.sl false (.v 7) (.so (.bin .add false (.v 9) (.k (.int 1)))) .no)) .nil)))) .nil)) .nil) (.cons (.ifs (.cmp .eq (.v 3) (.k (.int 4))) (.cons (.ret (.tup (.cons (.v 6) (.cons (.sl false (.v 7) .no (.so (.bin .add false (.k (.int 1)) (.call d (.cons (.v 0) (.cons (.bi .len false (.v 7)) .nil)))))) .nil)))) .nil) .nil) (.cons (.ifs (.cmp .eq (.v 3) (.k (.int 5))) (.cons (.ret (.tup (.cons (.bin .add false (.bin .add false (.v 6) (.k (.int 1))) (.call d (.cons (.v 0) (.cons (.k (.int 3)) .nil)))) (.cons (.v 7) .nil)))) .nil) .nil) (.cons (.ret (.tup (.cons (.v 6) (.cons (.v 4) .nil)))) .nil)))))))
def bBent (d pk : Nat) : Ss := (.cons (.asg (.tp [6, 7]) (.v 1)) (.cons (.asg (.nm 2) (.lst false (.cons (.tup (.cons (.v 6) (.cons (.k (.int 0)) .nil))) (.cons (.tup (.cons (.k (.int 0)) (.cons (.neg (.k (.int 1))) .nil))) (.cons (.tup (.cons (.k (.int 0)) .nil)) (.cons (.lst false (.cons (.k (.int 0)) (.cons (.k (.int 0)) .nil))) (.cons (.k .none) (.cons (.tup (.cons (.k (.int 0)) (.cons (.k (.bool true)) .nil))) (.cons (.tup (.cons (.k (.bool false)) (.cons (.k (.int 0)) .nil))) (.cons (.tup (.cons (.k (.int 0)) (.cons (.k (.int 0)) (.cons (.k (.int 0)) .nil)))) (.cons (.k (.str "00")) (.cons (.tup (.cons (.k (.int 0)) (.cons (.k .none) .nil))) (.cons (.tup (.cons (.bin .sub false (.v 6) (.k (.int 1))) (.cons (.k (.int 0)) .nil))) .nil))))))))))))) (.cons (.asg (.nm 2) (.bin .add false (.v 2) (.lst false (.cons (.tup (.cons (.neg (.k (.int 1))) (.cons (.k (.int 0)) .nil))) (.cons (.tup (.cons (.neg (.k (.int 1))) (.cons (.neg (.k (.int 1))) .nil))) (.cons (.tup (.cons (.k (.int 0)) (.cons (.v 6) .nil))) (.cons (.tup (.cons (.bin .sub false (.k (.int 0)) (.v 6)) (.cons (.bin .sub false (.v 6) (.k (.int 1))) .nil))) .nil))))))) (.cons (.asg (.nm 3) (.call d (.cons (.v 0) (.cons (.k (.int 8)) .nil)))) (.cons (.asg (.nm 4) (.bi .list true (.v 7))) (.cons (.for_ (.nm 5) (.rng (.ix (.lst false (.cons (.k (.int 2)) (.cons (.k (.int 1)) .nil))) (.bi .int false (.cmp .eq (.v 3) (.k (.int 7)))))) (.cons (.seti (.v 4) (.call d (.cons (.v 0) (.cons (.bi .len false (.v 7)) .nil))) (.call pk (.cons (.v 0) (.cons (.v 2) .nil)))) .nil)) (bTail d pk)))))))
/-- what it tells -/
structure Bt (q : PyData) : Prop where
  f : fi 4 q = true
  r : rp [17, 17, 3] q = true
def BentF (Φ : List D → Sto → R D) : Prop := ∀ {s : Sto} {p c k : Nat} {many : Int} {ls : List (Int × Int)}, Pu s p c (k + 20) → Tw 8 many ls → ∃ (q : PyData) (s' : Sto), Φ [.o p, .p (townP many ls)] s = .ok (.p q) s' ∧ Bt q ∧ Pu s' p c k ∧ Kp p c s s'
/-- a road, or what stands for one -/
def rdB (x : PyData) : Bool := rp [3] x && fi 2 x
abbrev odd1 (many : Int) : List PyData := [.tuple [.int many, .int 0], .tuple [.int 0, .int (-1)], .tuple [.int 0], .list [.int 0, .int 0], .none, .tuple [.int 0, .bool true], .tuple [.bool false, .int 0], .tuple [.int 0, .int 0, .int 0], .str "00", .tuple [.int 0, .none], .tuple [.int (many - 1), .int 0]]
abbrev odd2 (many : Int) : List PyData := [.tuple [.int (-1), .int 0], .tuple [.int (-1), .int (-1)], .tuple [.int 0, .int many], .tuple [.int (0 - many), .int (many - 1)]]
def odd (many : Int) : List PyData := odd1 many ++ odd2 many
/-- a list of roads as the second part, a number or another small thing as the first -/
theorem bt_pair {a : PyData} {rs : List PyData} (ha : lfB a = true) (hf : fi 3 a = true) (h1 : rs.length ≤ 17) (h2 : ∀ x ∈ rs, rdB x = true) : Bt (.tuple [a, .list rs]) := by
  have h3 : ∀ x ∈ rs, rp [3] x = true ∧ fi 2 x = true := fun x hx => Bool.and_eq_true_iff.mp (h2 x hx)
  refine ⟨?_, rp_tup.mpr ⟨by show 2 ≤ 17; decide, fun x hx => ?_⟩⟩
  · have f3 : fi 3 (.list rs) = true := fi_all (by omega) fun x hx => (h3 x hx).2
    show (decide (([a, .list rs] : List PyData).length ≤ 400) && ([a, .list rs] : List PyData).all (fi 3)) = true
    simp only [List.all_cons, List.all_nil, hf, f3, Bool.and_true]
    rfl
  · simp only [List.mem_cons, List.not_mem_nil, or_false] at hx
    rcases hx with rfl | rfl
    · exact rp_lf ha
    · exact rp_lst.mpr ⟨h1, fun y hy => (h3 y hy).1⟩
theorem rd_pr {b many : Int} {ls : List (Int × Int)} (h : Tw b many ls) (hb : b ≤ 8) : ∀ x ∈ ls.map prP, rdB x = true := by
  intro x hx
  obtain ⟨y, hy, rfl⟩ := List.mem_map.mp hx
  obtain ⟨y1, y2, y3, y4⟩ := h.rd y hy
  have m8 : many ≤ 8 := Int.le_trans h.m2 hb
  have l1 : lfB (.int y.1) = true := decide_eq_true (by omega)
  have l2 : lfB (.int y.2) = true := decide_eq_true (by omega)
  have e1 : rp [3] (prP y) = true := rp_tup.mpr ⟨by show 2 ≤ 3; decide, fun z hz => by
    simp only [List.mem_cons, List.not_mem_nil, or_false] at hz
    rcases hz with rfl | rfl
    · exact rp_lf l1
    · exact rp_lf l2⟩
  unfold rdB
  rw [e1]
  rfl
theorem odd_rd {many : Int} (h1 : 1 ≤ many) (h2 : many ≤ 8) : ∀ x ∈ odd many, rdB x = true := by
  intro x hx
  have a1 : lfB (.int many) = true := decide_eq_true (by omega)
  have a2 : lfB (.int (many - 1)) = true := decide_eq_true (by omega)
  have a3 : lfB (.int (0 - many)) = true := decide_eq_true (by omega)
  have pr : ∀ a b : PyData, lfB a = true → lfB b = true → fi 1 a = true → fi 1 b = true → rdB (.tuple [a, b]) = true := fun a b ha hb fa fb => by
    have e1 : rp [3] (.tuple [a, b]) = true := rp_tup.mpr ⟨by show 2 ≤ 3; decide, fun z hz => by
      simp only [List.mem_cons, List.not_mem_nil, or_false] at hz
      rcases hz with rfl | rfl
      · exact rp_lf ha
      · exact rp_lf hb⟩
    have e2 : fi 2 (.tuple [a, b]) = true := by
      show (decide (([a, b] : List PyData).length ≤ 400) && ([a, b] : List PyData).all (fi 1)) = true
      simp only [List.all_cons, List.all_nil, fa, fb, Bool.and_true]
      rfl
    unfold rdB
    rw [e1, e2]
    rfl
  simp only [odd, List.cons_append, List.nil_append, List.mem_cons, List.not_mem_nil, or_false] at hx
  rcases hx with rfl | rfl | rfl | rfl | rfl | rfl | rfl | rfl | rfl | rfl | rfl | rfl | rfl | rfl | rfl
  · exact pr _ _ a1 (by decide) rfl rfl
  · exact pr _ _ (by decide) (by decide) rfl rfl
  · decide +kernel
  · decide +kernel
  · decide +kernel
  · exact pr _ _ (by decide) (by decide) rfl rfl
  · exact pr _ _ (by decide) (by decide) rfl rfl
  · decide +kernel
  · decide +kernel
  · exact pr _ _ (by decide) (by decide) rfl rfl
  · exact pr _ _ a2 (by decide) rfl rfl
  · exact pr _ _ (by decide) (by decide) rfl rfl
  · exact pr _ _ (by decide) (by decide) rfl rfl
  · exact pr _ _ (by decide) a1 rfl rfl
  · exact pr _ _ a3 a2 rfl rfl
theorem l_list {fl : Bool} {s : Sto} {x : D} {xs : List D} (hx : asSq s x = some xs) : biop .list fl x s = mkL fl xs s := by
  unfold biop
  rw [hx]
theorem l_intb {fl : Bool} {s : Sto} (b : Bool) : biop .int fl (.p (.bool b)) s = .ok (.p (.int (if b = true then 1 else 0))) s := rfl
/-- a part of a bent town -/
def ptB (x : PyData) : Bool := rp [17, 3] x && fi 3 x
theorem pt_lf {a : PyData} (h : lfB a = true) (hf : fi 3 a = true) : ptB a = true := by
  unfold ptB
  rw [rp_lf h, hf]
  rfl
theorem pt_lst {rs : List PyData} (h1 : rs.length ≤ 17) (h2 : ∀ x ∈ rs, rdB x = true) : ptB (.list rs) = true := by
  have h3 : ∀ x ∈ rs, rp [3] x = true ∧ fi 2 x = true := fun x hx => Bool.and_eq_true_iff.mp (h2 x hx)
  unfold ptB
  rw [rp_lst.mpr ⟨h1, fun x hx => (h3 x hx).1⟩, fi_all (by omega) fun x hx => (h3 x hx).2]
  rfl
theorem pt_tup {rs : List PyData} (h1 : rs.length ≤ 17) (h2 : ∀ x ∈ rs, rdB x = true) : ptB (.tuple rs) = true := by
  have h3 : ∀ x ∈ rs, rp [3] x = true ∧ fi 2 x = true := fun x hx => Bool.and_eq_true_iff.mp (h2 x hx)
  have f : fi 3 (.tuple rs) = true := by
    show (decide (rs.length ≤ 400) && rs.all (fi 2)) = true
    rw [decide_eq_true (by omega), List.all_eq_true.mpr fun x hx => (h3 x hx).2]
    rfl
  unfold ptB
  rw [rp_tup.mpr ⟨h1, fun x hx => (h3 x hx).1⟩, f]
  rfl
theorem pt_pr {b many : Int} {ls : List (Int × Int)} (h : Tw b many ls) (hb : b ≤ 8) : ∀ x ∈ ls.map prP, ptB x = true := by
  intro x hx
  obtain ⟨y, hy, rfl⟩ := List.mem_map.mp hx
  obtain ⟨y1, y2, y3, y4⟩ := h.rd y hy
  have m8 : many ≤ 8 := Int.le_trans h.m2 hb
  have e1 : rp [17, 3] (prP y) = true := rp_tup.mpr ⟨by show 2 ≤ 17; decide, fun z hz => by
    simp only [List.mem_cons, List.not_mem_nil, or_false] at hz
    rcases hz with rfl | rfl
    · exact rp_lf (decide_eq_true (by omega))
    · exact rp_lf (decide_eq_true (by omega))⟩
  unfold ptB
  rw [e1]
  rfl
theorem bt_lst {xs : List PyData} (h1 : xs.length ≤ 17) (h2 : ∀ x ∈ xs, ptB x = true) : Bt (.list xs) := by
  have h3 : ∀ x ∈ xs, rp [17, 3] x = true ∧ fi 3 x = true := fun x hx => Bool.and_eq_true_iff.mp (h2 x hx)
  exact ⟨fi_all (by omega) fun x hx => (h3 x hx).2, rp_lst.mpr ⟨h1, fun x hx => (h3 x hx).1⟩⟩
theorem bt_tup {xs : List PyData} (h1 : xs.length ≤ 17) (h2 : ∀ x ∈ xs, ptB x = true) : Bt (.tuple xs) := by
  have h3 : ∀ x ∈ xs, rp [17, 3] x = true ∧ fi 3 x = true := fun x hx => Bool.and_eq_true_iff.mp (h2 x hx)
  refine ⟨?_, rp_tup.mpr ⟨h1, fun x hx => (h3 x hx).1⟩⟩
  show (decide (xs.length ≤ 400) && xs.all (fi 3)) = true
  rw [decide_eq_true (by omega), List.all_eq_true.mpr fun x hx => (h3 x hx).2]
  rfl
theorem b_rep {s : Sto} {xs : List PyData} (h : xs.length ≤ 1000) : binop .mul false (.p (.list xs)) (.p (.int 17)) s = .ok (.p (.list (List.replicate 17 xs).flatten)) s := by
  show (if 0 ≤ (17 : Int) ∧ (17 : Int) ≤ 1000 ∧ (xs.map D.p).length ≤ 1000 then mkL false (List.replicate (17 : Int).toNat (xs.map D.p)).flatten s else .bad) = _
  rw [if_pos ⟨by decide, by decide, by rw [List.length_map]; exact h⟩]
  have e : (List.replicate (17 : Int).toNat (xs.map D.p)).flatten = (List.replicate 17 xs).flatten.map D.p := by
    rw [List.map_flatten, List.map_replicate]
    rfl
  rw [e, mkL_p _ _ (by simp; omega)]
theorem l_tup {fl : Bool} {s : Sto} {xs : List PyData} (h : xs.length ≤ 1000000) : biop .tuple fl (.p (.list xs)) s = .ok (.p (.tuple xs)) s := by
  show mkT (xs.map D.p) s = _
  unfold mkT
  rw [if_pos (by rw [List.length_map]; exact h)]
  have : allP (xs.map D.p) = some xs := by
    clear h
    induction xs with
    | nil => rfl
    | cons d ds ih =>
      unfold allP at ih ⊢
      simp only [List.map_cons, mapO, pOf, ih]
  rw [this]
theorem sIx_n (n d j : Nat) : HT.sIx n d (some (j : Int)) = min j n := by
  simp [HT.sIx]
  try omega
theorem cut_to (xs : List D) (j : Nat) : cutD xs none (some (j : Int)) = xs.take j := by
  unfold cutD
  rw [sIx_n, show HT.sIx xs.length 0 none = 0 by simp [HT.sIx], List.drop_zero, Nat.sub_zero]
  by_cases h : j ≤ xs.length
  · rw [Nat.min_eq_left h]
  · rw [Nat.min_eq_right (by omega), List.take_length, List.take_of_length_le (by omega)]
theorem cut_from (xs : List D) (j : Nat) : cutD xs (some (j : Int)) none = xs.drop j := by
  unfold cutD
  rw [sIx_n, show HT.sIx xs.length xs.length none = xs.length by simp [HT.sIx]]
  by_cases h : j ≤ xs.length
  · rw [Nat.min_eq_left h, List.take_of_length_le (by rw [List.length_drop]; omega)]
  · rw [Nat.min_eq_right (by omega), Nat.sub_self, List.take_zero, List.drop_of_length_le (by omega)]
theorem sl_to {s : Sto} {xs : List PyData} {j : Nat} (h : xs.length ≤ 1000000) : slop false (.p (.list xs)) none (some (j : Int)) s = .ok (.p (.list (xs.take j))) s := by
  show mkL false (cutD (xs.map D.p) none (some (j : Int))) s = _
  rw [cut_to, ← List.map_take, mkL_p _ _ (by rw [List.length_take]; omega)]
theorem sl_from {s : Sto} {xs : List PyData} {j : Nat} (h : xs.length ≤ 1000000) : slop false (.p (.list xs)) (some (j : Int)) none s = .ok (.p (.list (xs.drop j))) s := by
  show mkL false (cutD (xs.map D.p) (some (j : Int)) none) s = _
  rw [cut_from, ← List.map_drop, mkL_p _ _ (by rw [List.length_drop]; omega)]
theorem bent_run (P : Pg) {d pk : Nat} (hd : DrawF (P.Φ d)) (hk : PickF (P.Φ pk)) : BentF (fun args s => runB P ⟨2, 10, bBent d pk, true⟩ args s) := by
  intro s p c k many ls h hT
  obtain ⟨l1, l2⟩ := h.lt
  have m1 := hT.m1
  have m2 := hT.m2
  have ll1 := hT.l1
  have ll2 := hT.l2
  have lim : LIM = 1000000 := rfl
  obtain ⟨r, s1, e1, r1, r2, pu1, kp1⟩ := hd (m := 8) (k := k + 19) h (by decide) (by decide)
  obtain ⟨tm, tmv, hev⟩ : ∃ tm : Int, (tm = 1 ∨ tm = 2) ∧ ∀ (e : Env) (s' : Sto), e[3]? = some (some (.p (.int r))) → ev P (.ix (.lst false (.cons (.k (.int 2)) (.cons (.k (.int 1)) .nil))) (.bi .int false (.cmp .eq (.v 3) (.k (.int 7))))) e s' = .ok (.p (.int tm)) s' := by
    by_cases q : r = 7
    · refine ⟨1, .inl rfl, fun e s' he => ?_⟩
      have b : (r == 7) = true := by simp [q]
      simp only [ev_v, ev_k, ev_g, ev_tup, ev_lst, ev_bin, ev_neg, ev_nt, ev_cmp, ev_chn, ev_an, ev_orr, ev_ife, ev_ix, ev_sl, ev_rev, ev_call, ev_bi, ev_isi, ev_isx, ev_app, ev_ins, ev_frz, ev_fld, evs_nil, evs_cons, evo_no, evo_so, G.R.bind_ok, rOr_some, vr_s, dInt_i, dBool_b, b_add, b_sub, b_pow18, b_pow9, c_lt, c_le, c_gt, c_ge, c_is, c_isn, List.getElem?_cons_succ, List.getElem?_cons_zero, List.set_cons_succ, List.set_cons_zero, brR_t, brR_f, mkL_2, he, eq_int, b, l_intb, if_true, i_ix (asSq_l _) (show atI (([.int 2, .int 1] : List PyData).map D.p) 1 = some (.p (.int 1)) from rfl)]
    · refine ⟨2, .inr rfl, fun e s' he => ?_⟩
      have b : (r == 7) = false := by simp [q]
      simp only [ev_v, ev_k, ev_g, ev_tup, ev_lst, ev_bin, ev_neg, ev_nt, ev_cmp, ev_chn, ev_an, ev_orr, ev_ife, ev_ix, ev_sl, ev_rev, ev_call, ev_bi, ev_isi, ev_isx, ev_app, ev_ins, ev_frz, ev_fld, evs_nil, evs_cons, evo_no, evo_so, G.R.bind_ok, rOr_some, vr_s, dInt_i, dBool_b, b_add, b_sub, b_pow18, b_pow9, c_lt, c_le, c_gt, c_ge, c_is, c_isn, List.getElem?_cons_succ, List.getElem?_cons_zero, List.set_cons_succ, List.set_cons_zero, brR_t, brR_f, mkL_2, he, eq_int, b, l_intb, Bool.false_eq_true, if_false, i_ix (asSq_l _) (show atI (([.int 2, .int 1] : List PyData).map D.p) 0 = some (.p (.int 2)) from rfl)]
  let F : Item → Env → Sto → RS := fun x e1 s2 => bindS (.nm 5) x s2 e1 fun e2 => exs P (.cons (.seti (.v 4) (.call d (.cons (.v 0) (.cons (.bi .len false (.v 7)) .nil))) (.call pk (.cons (.v 0) (.cons (.v 2) .nil)))) .nil) e2 s2
  let I : Nat → Env → Sto → Prop := fun i e s2 => (∃ z, e = [some (.o p), some (.p (townP many ls)), some (.p (.list (odd many))), some (.p (.int r)), some (.o s1.length), z, some (.p (.int many)), some (.p (.list (ls.map prP))), none, none]) ∧ ∃ zs : List PyData, s2[s1.length]? = some (some (.lst (zs.map D.p))) ∧ zs.length = ls.length ∧ (∀ z ∈ zs, rdB z = true) ∧ Pu s2 p c (k + 19 - 2 * i) ∧ Ks p c s1 s2
  have h1 : s1.length = s.length := kp1.1
  have step : ∀ (i : Nat) (x : Item) (e : Env) (s2 : Sto), ((List.range tm.toNat).map fun (k : Nat) => Item.one (.p (.int (k : Int))))[i]? = some x → I i e s2 → ∃ e' s', F x e s2 = .nx e' s' ∧ I (i + 1) e' s' := by
    rintro i x e s2 hx ⟨⟨z, rfl⟩, zs, c2, zl, zr, pu2, ks2⟩
    obtain ⟨hi, rfl⟩ := rng_get hx
    have hi2 : i < 2 := by omega
    obtain ⟨y, s3, e3, ym, pu3, kp3⟩ := hk (ds := odd many) (k := k + 19 - 2 * i - 1) (pu2.le (by omega)) (by simp [odd]) (by simp [odd])
    obtain ⟨j, s4, e4, j1, j2, pu4, kp4⟩ := hd (m := (((ls.map prP).map D.p).length : Int)) (k := k + 19 - 2 * (i + 1)) (pu3.le (by omega)) (by rw [List.length_map, List.length_map]; omega) (by rw [List.length_map, List.length_map]; omega)
    rw [List.length_map, List.length_map] at j2
    obtain ⟨j, rfl⟩ := Int.eq_ofNat_of_zero_le j1
    have hj : j < zs.length := by omega
    have c4 : s4[s1.length]? = some (some (.lst (zs.map D.p))) := by rw [kp4.2 _ (by omega) (by omega), kp3.2 _ (by omega) (by omega)]; exact c2
    refine ⟨[some (.o p), some (.p (townP many ls)), some (.p (.list (odd many))), some (.p (.int r)), some (.o s1.length), some (.p (.int (i : Int))), some (.p (.int many)), some (.p (.list (ls.map prP))), none, none], s4.set s1.length (some (.lst ((zs.set j y).map D.p))), ?_, ⟨_, rfl⟩, zs.set j y, ?_, ?_, ?_, ?_, ?_⟩
    · show exs P _ [some (.o p), some (.p (townP many ls)), some (.p (.list (odd many))), some (.p (.int r)), some (.o s1.length), some (.p (.int (i : Int))), some (.p (.int many)), some (.p (.list (ls.map prP))), none, none] s2 = _
      rw [st_seti (by simp only [ev_v, ev_k, ev_g, ev_tup, ev_lst, ev_bin, ev_neg, ev_nt, ev_cmp, ev_chn, ev_an, ev_orr, ev_ife, ev_ix, ev_sl, ev_rev, ev_call, ev_bi, ev_isi, ev_isx, ev_app, ev_ins, ev_frz, ev_fld, evs_nil, evs_cons, evo_no, evo_so, G.R.bind_ok, rOr_some, vr_s, dInt_i, dBool_b, b_add, b_sub, b_pow18, b_pow9, c_lt, c_le, c_gt, c_ge, c_is, c_isn, List.getElem?_cons_succ, List.getElem?_cons_zero, List.set_cons_succ, List.set_cons_zero, brR_t, brR_f, e3] <;> rfl) (by simp only [ev_v, ev_k, ev_g, ev_tup, ev_lst, ev_bin, ev_neg, ev_nt, ev_cmp, ev_chn, ev_an, ev_orr, ev_ife, ev_ix, ev_sl, ev_rev, ev_call, ev_bi, ev_isi, ev_isx, ev_app, ev_ins, ev_frz, ev_fld, evs_nil, evs_cons, evo_no, evo_so, G.R.bind_ok, rOr_some, vr_s, dInt_i, dBool_b, b_add, b_sub, b_pow18, b_pow9, c_lt, c_le, c_gt, c_ge, c_is, c_isn, List.getElem?_cons_succ, List.getElem?_cons_zero, List.set_cons_succ, List.set_cons_zero, brR_t, brR_f] <;> rfl) (by simp only [ev_v, ev_k, ev_g, ev_tup, ev_lst, ev_bin, ev_neg, ev_nt, ev_cmp, ev_chn, ev_an, ev_orr, ev_ife, ev_ix, ev_sl, ev_rev, ev_call, ev_bi, ev_isi, ev_isx, ev_app, ev_ins, ev_frz, ev_fld, evs_nil, evs_cons, evo_no, evo_so, G.R.bind_ok, rOr_some, vr_s, dInt_i, dBool_b, b_add, b_sub, b_pow18, b_pow9, c_lt, c_le, c_gt, c_ge, c_is, c_isn, List.getElem?_cons_succ, List.getElem?_cons_zero, List.set_cons_succ, List.set_cons_zero, brR_t, brR_f, l_len false (asSq_l (ls.map prP)), e4] <;> rfl) (s_set c4 (ixN_nat (by rw [List.length_map]; exact hj))), st_nil, List.map_set]
    · exact List.getElem?_set_self (List.getElem?_eq_some_iff.mp c4).1
    · rw [List.length_set]; exact zl
    · intro z hz
      rcases List.mem_or_eq_of_mem_set hz with hz | rfl
      · exact zr z hz
      · exact odd_rd m1 m2 _ ym
    · exact pu4.set (by omega) (by omega) _
    · exact ((ks2.trans kp3.ks).trans kp4.ks).set (Nat.le_refl _) _
  have c1 : (s1 ++ [some (.lst ((ls.map prP).map D.p))])[s1.length]? = some (some (.lst ((ls.map prP).map D.p))) := get_app s1 _
  obtain ⟨e2, s2, hf, ⟨z, rfl⟩, zs, c2, zl, zr, pu2, ks2⟩ := forL_inv (f := F) I step (e := [some (.o p), some (.p (townP many ls)), some (.p (.list (odd many))), some (.p (.int r)), some (.o s1.length), none, some (.p (.int many)), some (.p (.list (ls.map prP))), none, none]) (s := s1 ++ [some (.lst ((ls.map prP).map D.p))])
    ⟨⟨_, rfl⟩, ls.map prP, c1, by rw [List.length_map], rd_pr hT (by decide), pu1.app _, Ks.app _ _⟩
  rw [List.length_map, List.length_range] at pu2
  have pu2' : Pu s2 p c (k + 1 + 1 + 1) := pu2.le (by omega)
  have pre : exs P (bBent d pk) [some (.o p), some (.p (townP many ls)), none, none, none, none, none, none, none, none] s = exs P (bTail d pk) [some (.o p), some (.p (townP many ls)), some (.p (.list (odd many))), some (.p (.int r)), some (.o s1.length), z, some (.p (.int many)), some (.p (.list (ls.map prP))), none, none] s2 := by
    unfold bBent
    rw [st_asg (by simp only [ev_v, ev_k, ev_g, ev_tup, ev_lst, ev_bin, ev_neg, ev_nt, ev_cmp, ev_chn, ev_an, ev_orr, ev_ife, ev_ix, ev_sl, ev_rev, ev_call, ev_bi, ev_isi, ev_isx, ev_app, ev_ins, ev_frz, ev_fld, evs_nil, evs_cons, evo_no, evo_so, G.R.bind_ok, rOr_some, vr_s, dInt_i, dBool_b, b_add, b_sub, b_pow18, b_pow9, c_lt, c_le, c_gt, c_ge, c_is, c_isn, List.getElem?_cons_succ, List.getElem?_cons_zero, List.set_cons_succ, List.set_cons_zero, brR_t, brR_f] <;> rfl) (show bindT (.tp [6, 7]) (.one (.p (townP many ls))) s _ = some [some (.o p), some (.p (townP many ls)), none, none, none, none, some (.p (.int many)), some (.p (.list (ls.map prP))), none, none] from rfl)]
    rw [st_asg (d := .p (.list (odd1 many))) (by simp only [ev_v, ev_k, ev_g, ev_tup, ev_lst, ev_bin, ev_neg, ev_nt, ev_cmp, ev_chn, ev_an, ev_orr, ev_ife, ev_ix, ev_sl, ev_rev, ev_call, ev_bi, ev_isi, ev_isx, ev_app, ev_ins, ev_frz, ev_fld, evs_nil, evs_cons, evo_no, evo_so, G.R.bind_ok, rOr_some, vr_s, dInt_i, dBool_b, b_add, b_sub, b_pow18, b_pow9, c_lt, c_le, c_gt, c_ge, c_is, c_isn, List.getElem?_cons_succ, List.getElem?_cons_zero, List.set_cons_succ, List.set_cons_zero, brR_t, brR_f, mkT_1, mkT_2, mkT_3, mkL_2, mkL_11] <;> rfl) rfl]
    simp only [List.set_cons_succ, List.set_cons_zero]
    rw [st_asg (d := .p (.list (odd many))) (by simp only [ev_v, ev_k, ev_g, ev_tup, ev_lst, ev_bin, ev_neg, ev_nt, ev_cmp, ev_chn, ev_an, ev_orr, ev_ife, ev_ix, ev_sl, ev_rev, ev_call, ev_bi, ev_isi, ev_isx, ev_app, ev_ins, ev_frz, ev_fld, evs_nil, evs_cons, evo_no, evo_so, G.R.bind_ok, rOr_some, vr_s, dInt_i, dBool_b, b_add, b_sub, b_pow18, b_pow9, c_lt, c_le, c_gt, c_ge, c_is, c_isn, List.getElem?_cons_succ, List.getElem?_cons_zero, List.set_cons_succ, List.set_cons_zero, brR_t, brR_f, mkT_2, mkL_4, b_catp (odd1 many) (odd2 many) (by simp)] <;> rfl) rfl]
    simp only [List.set_cons_succ, List.set_cons_zero]
    rw [st_asg (by simp only [ev_v, ev_k, ev_g, ev_tup, ev_lst, ev_bin, ev_neg, ev_nt, ev_cmp, ev_chn, ev_an, ev_orr, ev_ife, ev_ix, ev_sl, ev_rev, ev_call, ev_bi, ev_isi, ev_isx, ev_app, ev_ins, ev_frz, ev_fld, evs_nil, evs_cons, evo_no, evo_so, G.R.bind_ok, rOr_some, vr_s, dInt_i, dBool_b, b_add, b_sub, b_pow18, b_pow9, c_lt, c_le, c_gt, c_ge, c_is, c_isn, List.getElem?_cons_succ, List.getElem?_cons_zero, List.set_cons_succ, List.set_cons_zero, brR_t, brR_f, e1] <;> rfl) rfl]
    simp only [List.set_cons_succ, List.set_cons_zero]
    rw [st_asg (by simp only [ev_v, ev_k, ev_g, ev_tup, ev_lst, ev_bin, ev_neg, ev_nt, ev_cmp, ev_chn, ev_an, ev_orr, ev_ife, ev_ix, ev_sl, ev_rev, ev_call, ev_bi, ev_isi, ev_isx, ev_app, ev_ins, ev_frz, ev_fld, evs_nil, evs_cons, evo_no, evo_so, G.R.bind_ok, rOr_some, vr_s, dInt_i, dBool_b, b_add, b_sub, b_pow18, b_pow9, c_lt, c_le, c_gt, c_ge, c_is, c_isn, List.getElem?_cons_succ, List.getElem?_cons_zero, List.set_cons_succ, List.set_cons_zero, brR_t, brR_f, l_list (asSq_l (ls.map prP)), mkL_c ((ls.map prP).map D.p) s1 (by rw [List.length_map, List.length_map]; omega)] <;> rfl) rfl]
    simp only [List.set_cons_succ, List.set_cons_zero]
    rw [st_for (r_rng (hev _ _ rfl) (by omega) (by omega)) hf]
  have ks02 : Ks p c s s2 := kp1.ks.trans ks2
  have finP : ∀ {q : PyData} {s3 : Sto}, exs P (bTail d pk) [some (.o p), some (.p (townP many ls)), some (.p (.list (odd many))), some (.p (.int r)), some (.o s1.length), z, some (.p (.int many)), some (.p (.list (ls.map prP))), none, none] s2 = .rt (.p q) s3 → Bt q → Pu s3 p c k → Ks p c s s3 → ∃ (q : PyData) (s' : Sto), runB P ⟨2, 10, bBent d pk, true⟩ [.o p, .p (townP many ls)] s = .ok (.p q) s' ∧ Bt q ∧ Pu s' p c k ∧ Kp p c s s' := by
    intro q s3 h3 hq pu3 ks3
    obtain ⟨s4, ec, pu4, kp4⟩ := cut_ks l1 l2 pu3 ks3
    refine ⟨q, s4, ?_, hq, pu4, kp4⟩
    unfold runB
    have e' : exs P (bBent d pk) (([.o p, .p (townP many ls)] : List D).map some ++ List.replicate (10 - ([.o p, .p (townP many ls)] : List D).length) none) s = .rt (.p q) s3 := pre.trans h3
    show (match exs P (bBent d pk) _ s with
      | .nx _ s' => finO _ (.p .none) s s'
      | .rt d s' => finO _ d s s'
      | .exc x _ s' => finX x s s'
      | _ => .bad) = _
    rw [e']
    exact finO_p rfl ec
  have lr : ∀ x ∈ ls.map prP, rdB x = true := rd_pr hT (by decide)
  have ll : (ls.map prP).length ≤ 16 := by rw [List.length_map]; omega
  have cs : ∀ j : Int, ev P (.cmp .eq (.v 3) (.k (.int j))) [some (.o p), some (.p (townP many ls)), some (.p (.list (odd many))), some (.p (.int r)), some (.o s1.length), z, some (.p (.int many)), some (.p (.list (ls.map prP))), none, none] s2 = .ok (.p (.bool (r == j))) s2 := fun j => by simp only [ev_v, ev_k, ev_g, ev_tup, ev_lst, ev_bin, ev_neg, ev_nt, ev_cmp, ev_chn, ev_an, ev_orr, ev_ife, ev_ix, ev_sl, ev_rev, ev_call, ev_bi, ev_isi, ev_isx, ev_app, ev_ins, ev_frz, ev_fld, evs_nil, evs_cons, evo_no, evo_so, G.R.bind_ok, rOr_some, vr_s, dInt_i, dBool_b, b_add, b_sub, b_pow18, b_pow9, c_lt, c_le, c_gt, c_ge, c_is, c_isn, List.getElem?_cons_succ, List.getElem?_cons_zero, List.set_cons_succ, List.set_cons_zero, brR_t, brR_f, eq_int]
  unfold bTail at finP
  by_cases q5 : r = 5
  · subst q5
    obtain ⟨u, s3, e3, u1, u2, pu3, kp3⟩ := hd (m := 3) (k := k) (pu2'.le (by omega)) (by decide) (by decide)
    refine finP ?_ (bt_pair (a := .int (many + 1 + u)) (rs := ls.map prP) (decide_eq_true (by omega)) rfl (by omega) lr) pu3 (ks02.trans kp3.ks)
    rw [st_ifF (cs 0), st_nil, RS.nxt_nx, st_ifF (cs 1), st_nil, RS.nxt_nx, st_ifF (cs 2), st_nil, RS.nxt_nx, st_ifF (cs 3), st_nil, RS.nxt_nx, st_ifF (cs 4), st_nil, RS.nxt_nx, st_ifT (cs 5)]
    rw [st_ret (by simp only [ev_v, ev_k, ev_g, ev_tup, ev_lst, ev_bin, ev_neg, ev_nt, ev_cmp, ev_chn, ev_an, ev_orr, ev_ife, ev_ix, ev_sl, ev_rev, ev_call, ev_bi, ev_isi, ev_isx, ev_app, ev_ins, ev_frz, ev_fld, evs_nil, evs_cons, evo_no, evo_so, G.R.bind_ok, rOr_some, vr_s, dInt_i, dBool_b, b_add, b_sub, b_pow18, b_pow9, c_lt, c_le, c_gt, c_ge, c_is, c_isn, List.getElem?_cons_succ, List.getElem?_cons_zero, List.set_cons_succ, List.set_cons_zero, brR_t, brR_f, e3, mkT_2] <;> rfl), RS.nxt_rt]
  by_cases q4 : r = 4
  · subst q4
    obtain ⟨u, s3, e3, u1, u2, pu3, kp3⟩ := hd (m := (((ls.map prP).map D.p).length : Int)) (k := k) (pu2'.le (by omega)) (by rw [List.length_map, List.length_map]; omega) (by rw [List.length_map, List.length_map]; omega)
    obtain ⟨u, rfl⟩ := Int.eq_ofNat_of_zero_le u1
    refine finP ?_ (bt_pair (a := .int many) (rs := (ls.map prP).take (1 + u)) (decide_eq_true (by omega)) rfl (by rw [List.length_take]; omega) fun x hx => lr x (List.mem_of_mem_take hx)) pu3 (ks02.trans kp3.ks)
    rw [st_ifF (cs 0), st_nil, RS.nxt_nx, st_ifF (cs 1), st_nil, RS.nxt_nx, st_ifF (cs 2), st_nil, RS.nxt_nx, st_ifF (cs 3), st_nil, RS.nxt_nx, st_ifT (cs 4)]
    have sl := sl_to (s := s3) (xs := ls.map prP) (j := 1 + u) (by omega)
    rw [Int.natCast_add] at sl
    rw [st_ret (by simp only [ev_v, ev_k, ev_g, ev_tup, ev_lst, ev_bin, ev_neg, ev_nt, ev_cmp, ev_chn, ev_an, ev_orr, ev_ife, ev_ix, ev_sl, ev_rev, ev_call, ev_bi, ev_isi, ev_isx, ev_app, ev_ins, ev_frz, ev_fld, evs_nil, evs_cons, evo_no, evo_so, G.R.bind_ok, rOr_some, vr_s, dInt_i, dBool_b, b_add, b_sub, b_pow18, b_pow9, c_lt, c_le, c_gt, c_ge, c_is, c_isn, List.getElem?_cons_succ, List.getElem?_cons_zero, List.set_cons_succ, List.set_cons_zero, brR_t, brR_f, l_len false (asSq_l (ls.map prP)), e3, show (1 : Int) = ((1 : Nat) : Int) from rfl, sl, mkT_2] <;> rfl), RS.nxt_rt]
  by_cases q3 : r = 3
  · subst q3
    obtain ⟨u, s3, e3, u1, u2, pu3, kp3⟩ := hd (m := (((ls.map prP).map D.p).length : Int)) (k := k) (pu2'.le (by omega)) (by rw [List.length_map, List.length_map]; omega) (by rw [List.length_map, List.length_map]; omega)
    obtain ⟨u, rfl⟩ := Int.eq_ofNat_of_zero_le u1
    refine finP ?_ (bt_pair (a := .int many) (rs := (ls.map prP).take u ++ (ls.map prP).drop (u + 1)) (decide_eq_true (by omega)) rfl (by rw [List.length_append, List.length_take, List.length_drop]; omega) fun x hx => by
      rcases List.mem_append.mp hx with hx | hx
      · exact lr x (List.mem_of_mem_take hx)
      · exact lr x (List.mem_of_mem_drop hx)) pu3 (ks02.trans kp3.ks)
    rw [st_ifF (cs 0), st_nil, RS.nxt_nx, st_ifF (cs 1), st_nil, RS.nxt_nx, st_ifF (cs 2), st_nil, RS.nxt_nx, st_ifT (cs 3)]
    have sf := sl_from (s := s3) (xs := ls.map prP) (j := u + 1) (by omega)
    rw [Int.natCast_add] at sf
    rw [st_asg (by simp only [ev_v, ev_k, ev_g, ev_tup, ev_lst, ev_bin, ev_neg, ev_nt, ev_cmp, ev_chn, ev_an, ev_orr, ev_ife, ev_ix, ev_sl, ev_rev, ev_call, ev_bi, ev_isi, ev_isx, ev_app, ev_ins, ev_frz, ev_fld, evs_nil, evs_cons, evo_no, evo_so, G.R.bind_ok, rOr_some, vr_s, dInt_i, dBool_b, b_add, b_sub, b_pow18, b_pow9, c_lt, c_le, c_gt, c_ge, c_is, c_isn, List.getElem?_cons_succ, List.getElem?_cons_zero, List.set_cons_succ, List.set_cons_zero, brR_t, brR_f, l_len false (asSq_l (ls.map prP)), e3] <;> rfl) rfl]
    simp only [List.set_cons_succ, List.set_cons_zero]
    rw [st_ret (by simp only [ev_v, ev_k, ev_g, ev_tup, ev_lst, ev_bin, ev_neg, ev_nt, ev_cmp, ev_chn, ev_an, ev_orr, ev_ife, ev_ix, ev_sl, ev_rev, ev_call, ev_bi, ev_isi, ev_isx, ev_app, ev_ins, ev_frz, ev_fld, evs_nil, evs_cons, evo_no, evo_so, G.R.bind_ok, rOr_some, vr_s, dInt_i, dBool_b, b_add, b_sub, b_pow18, b_pow9, c_lt, c_le, c_gt, c_ge, c_is, c_isn, List.getElem?_cons_succ, List.getElem?_cons_zero, List.set_cons_succ, List.set_cons_zero, brR_t, brR_f, sl_to (s := s3) (xs := ls.map prP) (j := u) (by omega), show (1 : Int) = ((1 : Nat) : Int) from rfl, sf, b_catp ((ls.map prP).take u) ((ls.map prP).drop (u + 1)) (by rw [List.length_take, List.length_drop]; omega), mkT_2] <;> rfl), RS.nxt_rt]
  by_cases q1 : r = 1
  · subst q1
    obtain ⟨u, s3, e3, u1, u2, pu3, kp3⟩ := hd (m := 9) (k := k) (pu2'.le (by omega)) (by decide) (by decide)
    obtain ⟨u, rfl⟩ := Int.eq_ofNat_of_zero_le u1
    have hu : u < 9 := by omega
    have key : ∃ a : PyData, ([.int (many + 1), .int 0, .int 9, .int (-1), .bool true, .none, .str "3", .int (many + 10 ^ Int.toNat 20), .int (many - 1)] : List PyData)[u]? = some a ∧ lfB a = true ∧ fi 3 a = true := by
      match u, hu with
      | 0, _ => exact ⟨_, rfl, decide_eq_true (by omega), rfl⟩
      | 1, _ => exact ⟨_, rfl, by decide, rfl⟩
      | 2, _ => exact ⟨_, rfl, by decide, rfl⟩
      | 3, _ => exact ⟨_, rfl, by decide, rfl⟩
      | 4, _ => exact ⟨_, rfl, by decide, rfl⟩
      | 5, _ => exact ⟨_, rfl, by decide, rfl⟩
      | 6, _ => exact ⟨_, rfl, by decide +kernel, by decide +kernel⟩
      | 7, _ => exact ⟨_, rfl, decide_eq_true (by
          have : (10 : Int) ^ Int.toNat 20 = 100000000000000000000 := by decide +kernel
          rw [this]
          omega), rfl⟩
      | 8, _ => exact ⟨_, rfl, decide_eq_true (by omega), rfl⟩
    obtain ⟨a, ka, la, fa⟩ := key
    refine finP ?_ (bt_pair (a := a) (rs := ls.map prP) la fa (by omega) lr) pu3 (ks02.trans kp3.ks)
    rw [st_ifF (cs 0), st_nil, RS.nxt_nx, st_ifT (cs 1)]
    rw [st_ret (by simp only [ev_v, ev_k, ev_g, ev_tup, ev_lst, ev_bin, ev_neg, ev_nt, ev_cmp, ev_chn, ev_an, ev_orr, ev_ife, ev_ix, ev_sl, ev_rev, ev_call, ev_bi, ev_isi, ev_isx, ev_app, ev_ins, ev_frz, ev_fld, evs_nil, evs_cons, evo_no, evo_so, G.R.bind_ok, rOr_some, vr_s, dInt_i, dBool_b, b_add, b_sub, b_pow18, b_pow9, c_lt, c_le, c_gt, c_ge, c_is, c_isn, List.getElem?_cons_succ, List.getElem?_cons_zero, List.set_cons_succ, List.set_cons_zero, brR_t, brR_f, b_pow false (i := 10) (j := 20) (by decide +kernel), mkL_9, e3, i_ix (asSq_l _) (atI_nat (pD_get ka)), mkT_2] <;> rfl), RS.nxt_rt]
  have lm : lfB (.int many) = true := decide_eq_true (by omega)
  have pl : ptB (.list (ls.map prP)) = true := pt_lst (by omega) lr
  have pm : ptB (.int many) = true := pt_lf lm rfl
  by_cases q0 : r = 0
  · subst q0
    obtain ⟨u, s3, e3, u1, u2, pu3, kp3⟩ := hd (m := 9) (k := k) (pu2'.le (by omega)) (by decide) (by decide)
    obtain ⟨u, rfl⟩ := Int.eq_ofNat_of_zero_le u1
    have hu : u < 9 := by omega
    have key : ∃ q : PyData, ([.none, .list [.int many, .list (ls.map prP)], .tuple [.int many], .tuple [.int many, .list (ls.map prP), .int 0], .list (ls.map prP), .int many, .str "town", .tuple [.list (ls.map prP), .int many], .tuple []] : List PyData)[u]? = some q ∧ Bt q := by
      match u, hu with
      | 0, _ => exact ⟨_, rfl, rfl, rfl⟩
      | 1, _ => exact ⟨_, rfl, bt_lst (by show 2 ≤ 17; decide) (by simp [pl, pm])⟩
      | 2, _ => exact ⟨_, rfl, bt_tup (by show 1 ≤ 17; decide) (by simp [pm])⟩
      | 3, _ => exact ⟨_, rfl, bt_tup (by show 3 ≤ 17; decide) (by simp [pl, pm]; decide)⟩
      | 4, _ => exact ⟨_, rfl, bt_lst (by omega) (pt_pr hT (by decide))⟩
      | 5, _ => exact ⟨_, rfl, rfl, rp_lf lm⟩
      | 6, _ => exact ⟨_, rfl, by decide +kernel, by decide +kernel⟩
      | 7, _ => exact ⟨_, rfl, bt_tup (by show 2 ≤ 17; decide) (by simp [pl, pm])⟩
      | 8, _ => exact ⟨_, rfl, bt_tup (by show 0 ≤ 17; decide) (by simp)⟩
    obtain ⟨q, kq, bq⟩ := key
    refine finP ?_ bq pu3 (ks02.trans kp3.ks)
    rw [st_ifT (cs 0)]
    rw [st_asg (by simp only [ev_v, ev_k, ev_g, ev_tup, ev_lst, ev_bin, ev_neg, ev_nt, ev_cmp, ev_chn, ev_an, ev_orr, ev_ife, ev_ix, ev_sl, ev_rev, ev_call, ev_bi, ev_isi, ev_isx, ev_app, ev_ins, ev_frz, ev_fld, evs_nil, evs_cons, evo_no, evo_so, G.R.bind_ok, rOr_some, vr_s, dInt_i, dBool_b, b_add, b_sub, b_pow18, b_pow9, c_lt, c_le, c_gt, c_ge, c_is, c_isn, List.getElem?_cons_succ, List.getElem?_cons_zero, List.set_cons_succ, List.set_cons_zero, brR_t, brR_f, mkL_2, mkT_0, mkT_1, mkT_2, mkT_3, mkL_9] <;> rfl) rfl]
    simp only [List.set_cons_succ, List.set_cons_zero]
    rw [st_ret (by simp only [ev_v, ev_k, ev_g, ev_tup, ev_lst, ev_bin, ev_neg, ev_nt, ev_cmp, ev_chn, ev_an, ev_orr, ev_ife, ev_ix, ev_sl, ev_rev, ev_call, ev_bi, ev_isi, ev_isx, ev_app, ev_ins, ev_frz, ev_fld, evs_nil, evs_cons, evo_no, evo_so, G.R.bind_ok, rOr_some, vr_s, dInt_i, dBool_b, b_add, b_sub, b_pow18, b_pow9, c_lt, c_le, c_gt, c_ge, c_is, c_isn, List.getElem?_cons_succ, List.getElem?_cons_zero, List.set_cons_succ, List.set_cons_zero, brR_t, brR_f, e3, i_ix (asSq_l _) (atI_nat (pD_get kq))] <;> rfl), RS.nxt_rt]
  have bt2 : ∀ x : PyData, ptB x = true → Bt (.tuple [.int many, x]) := fun x hx => bt_tup (by show 2 ≤ 17; decide) (by simp [pm, hx])
  by_cases q2 : r = 2
  · subst q2
    obtain ⟨y, s3, e3, ym, pu3, kp3⟩ := hk (ds := odd many) (k := k + 1) (pu2'.le (by omega)) (by simp [odd]) (by simp [odd])
    obtain ⟨u, s4, e4, u1, u2, pu4, kp4⟩ := hd (m := 7) (k := k) pu3 (by decide) (by decide)
    obtain ⟨u, rfl⟩ := Int.eq_ofNat_of_zero_le u1
    have hu : u < 7 := by omega
    let fl17 := (List.replicate 17 (ls.map prP)).flatten
    have fm : ∀ x ∈ fl17, rdB x = true := fun x hx => by
      obtain ⟨l, hl, hx⟩ := List.mem_flatten.mp hx
      rw [List.mem_replicate] at hl
      exact lr x (hl.2 ▸ hx)
    have fln : fl17.length ≤ 400 := by
      show ((List.replicate 17 (ls.map prP)).flatten).length ≤ 400
      simp
      omega
    have t17 : slop false (.p (.list (List.replicate 17 (ls.map prP)).flatten)) none (some 17) s2 = .ok (.p (.list (fl17.take 17))) s2 := sl_to (s := s2) (xs := fl17) (j := 17) (by omega)
    have t16 : slop false (.p (.list (List.replicate 17 (ls.map prP)).flatten)) none (some 16) s2 = .ok (.p (.list (fl17.take 16))) s2 := sl_to (s := s2) (xs := fl17) (j := 16) (by omega)
    have p17 : ptB (.list (fl17.take 17)) = true := pt_lst (by rw [List.length_take]; omega) fun x hx => fm x (List.mem_of_mem_take hx)
    have p16 : ptB (.list (fl17.take 16)) = true := pt_lst (by rw [List.length_take]; omega) fun x hx => fm x (List.mem_of_mem_take hx)
    have yr := odd_rd m1 m2 y ym
    have p16y : ptB (.list (fl17.take 16 ++ [y])) = true := pt_lst (by rw [List.length_append, List.length_take]; simp; omega) fun x hx => by
      rcases List.mem_append.mp hx with hx | hx
      · exact fm x (List.mem_of_mem_take hx)
      · rw [List.mem_singleton.mp hx]; exact yr
    have key : ∃ x : PyData, ([.list [], .tuple (ls.map prP), .none, .list (fl17.take 17), .list (fl17.take 16), .str "roads"] ++ [.list (fl17.take 16 ++ [y])] : List PyData)[u]? = some x ∧ ptB x = true := by
      match u, hu with
      | 0, _ => exact ⟨_, rfl, by decide⟩
      | 1, _ => exact ⟨_, rfl, pt_tup (by omega) lr⟩
      | 2, _ => exact ⟨_, rfl, by decide⟩
      | 3, _ => exact ⟨_, rfl, p17⟩
      | 4, _ => exact ⟨_, rfl, p16⟩
      | 5, _ => exact ⟨_, rfl, by decide +kernel⟩
      | 6, _ => exact ⟨_, rfl, p16y⟩
    obtain ⟨x, kx, bx⟩ := key
    refine finP ?_ (bt2 x bx) pu4 ((ks02.trans kp3.ks).trans kp4.ks)
    rw [st_ifF (cs 0), st_nil, RS.nxt_nx, st_ifF (cs 1), st_nil, RS.nxt_nx, st_ifT (cs 2)]
    have rep := b_rep (s := s2) (xs := ls.map prP) (by omega)
    rw [st_asg (by simp only [ev_v, ev_k, ev_g, ev_tup, ev_lst, ev_bin, ev_neg, ev_nt, ev_cmp, ev_chn, ev_an, ev_orr, ev_ife, ev_ix, ev_sl, ev_rev, ev_call, ev_bi, ev_isi, ev_isx, ev_app, ev_ins, ev_frz, ev_fld, evs_nil, evs_cons, evo_no, evo_so, G.R.bind_ok, rOr_some, vr_s, dInt_i, dBool_b, b_add, b_sub, b_pow18, b_pow9, c_lt, c_le, c_gt, c_ge, c_is, c_isn, List.getElem?_cons_succ, List.getElem?_cons_zero, List.set_cons_succ, List.set_cons_zero, brR_t, brR_f, mkL_0, l_tup (show (ls.map prP).length ≤ 1000000 by omega), rep, t17, t16, mkL_6] <;> rfl) rfl]
    simp only [List.set_cons_succ, List.set_cons_zero]
    have lt16 : (fl17.take 16).length ≤ 16 := by rw [List.length_take]; omega
    rw [st_ret (by simp only [ev_v, ev_k, ev_g, ev_tup, ev_lst, ev_bin, ev_neg, ev_nt, ev_cmp, ev_chn, ev_an, ev_orr, ev_ife, ev_ix, ev_sl, ev_rev, ev_call, ev_bi, ev_isi, ev_isx, ev_app, ev_ins, ev_frz, ev_fld, evs_nil, evs_cons, evo_no, evo_so, G.R.bind_ok, rOr_some, vr_s, dInt_i, dBool_b, b_add, b_sub, b_pow18, b_pow9, c_lt, c_le, c_gt, c_ge, c_is, c_isn, List.getElem?_cons_succ, List.getElem?_cons_zero, List.set_cons_succ, List.set_cons_zero, brR_t, brR_f, rep, t16, e3, mkL_1, b_catp (fl17.take 16) [y] (by simp; omega), b_catp [.list [], .tuple (ls.map prP), .none, .list (fl17.take 17), .list (fl17.take 16), .str "roads"] [.list (fl17.take 16 ++ [y])] (by simp), e4, i_ix (asSq_l _) (atI_nat (pD_get kx)), mkT_2] <;> rfl), RS.nxt_rt]
  -- the roads bent
  have n2 : s1.length < s2.length := (List.getElem?_eq_some_iff.mp c2).1
  let s3 : Sto := s2 ++ [some (.tup [.p (.int many), .o s1.length])]
  have h3 : exs P (bTail d pk) [some (.o p), some (.p (townP many ls)), some (.p (.list (odd many))), some (.p (.int r)), some (.o s1.length), z, some (.p (.int many)), some (.p (.list (ls.map prP))), none, none] s2 = .rt (.o s2.length) s3 := by
    unfold bTail
    have nb : ∀ j : Int, r ≠ j → (r == j) = false := fun j hj => by simpa using hj
    have c0 := cs 0
    have c1' := cs 1
    have c2' := cs 2
    have c3 := cs 3
    have c4 := cs 4
    have c5 := cs 5
    rw [nb 0 q0] at c0
    rw [nb 1 q1] at c1'
    rw [nb 2 q2] at c2'
    rw [nb 3 q3] at c3
    rw [nb 4 q4] at c4
    rw [nb 5 q5] at c5
    rw [st_ifF c0, st_nil, RS.nxt_nx, st_ifF c1', st_nil, RS.nxt_nx, st_ifF c2', st_nil, RS.nxt_nx, st_ifF c3, st_nil, RS.nxt_nx, st_ifF c4, st_nil, RS.nxt_nx, st_ifF c5, st_nil, RS.nxt_nx]
    have mk : mkT [.p (.int many), .o s1.length] s2 = .ok (.o s2.length) s3 := if_pos (show 2 ≤ 1000000 by decide)
    rw [st_ret (by simp only [ev_v, ev_k, ev_g, ev_tup, ev_lst, ev_bin, ev_neg, ev_nt, ev_cmp, ev_chn, ev_an, ev_orr, ev_ife, ev_ix, ev_sl, ev_rev, ev_call, ev_bi, ev_isi, ev_isx, ev_app, ev_ins, ev_frz, ev_fld, evs_nil, evs_cons, evo_no, evo_so, G.R.bind_ok, rOr_some, vr_s, dInt_i, dBool_b, b_add, b_sub, b_pow18, b_pow9, c_lt, c_le, c_gt, c_ge, c_is, c_isn, List.getElem?_cons_succ, List.getElem?_cons_zero, List.set_cons_succ, List.set_cons_zero, brR_t, brR_f, mk] <;> rfl)]
  have g3 : s3[s2.length]? = some (some (.tup [.p (.int many), .o s1.length])) := get_app s2 _
  have c3 : (s3.set s2.length none)[s1.length]? = some (some (.lst (zs.map D.p))) := by
    rw [List.getElem?_set_ne (by omega)]
    show (s2 ++ _)[s1.length]? = _
    rw [List.getElem?_append_left n2]
    exact c2
  have fz : frz 8 (.o s2.length) s3 = some (.tuple [.int many, .list zs], (s3.set s2.length none).set s1.length none) := by
    unfold frz
    rw [cel_of g3]
    have f1 : frz 7 (.p (.int many)) (s3.set s2.length none) = some (.int many, s3.set s2.length none) := rfl
    have f2 := frz_l (k := 6) c3
    simp only [frzL, f1, f2]
  have puE : Pu ((s3.set s2.length none).set s1.length none) p c k := (((pu2'.le (by omega)).app _).set (by omega) (by omega) none).set (by omega) (by omega) none
  have ksE : Ks p c s ((s3.set s2.length none).set s1.length none) := ((ks02.trans (Ks.app s2 _)).set (by have := ks02.1; omega) none).set (by omega) none
  obtain ⟨s4, ec, pu4, kp4⟩ := cut_ks l1 l2 puE ksE
  refine ⟨.tuple [.int many, .list zs], s4, ?_, bt_pair lm rfl (by omega) zr, pu4, kp4⟩
  show runB P ⟨2, 10, bBent d pk, true⟩ [.o p, .p (townP many ls)] s = _
  unfold runB
  have e' : exs P (bBent d pk) (([.o p, .p (townP many ls)] : List D).map some ++ List.replicate (10 - ([.o p, .p (townP many ls)] : List D).length) none) s = .rt (.o s2.length) s3 := pre.trans h3
  show (match exs P (bBent d pk) _ s with
    | .nx _ s' => finO _ (.p .none) s s'
    | .rt d s' => finO _ d s s'
    | .exc x _ s' => finX x s s'
    | _ => .bad) = _
  rw [e']
  show finO _ (.o s2.length) s s3 = _
  unfold finO
  rw [if_pos rfl, fz]
  simp only [rOr_some, ec]
end
end G

namespace G
open PySem PySem.Spec PyProof.Rows L2
open Classical
noncomputable section
/-! ### k01: the law -/
theorem eqv_self {q : PyData} (h : SeqAt.shaped q = true) : PyData.eqv q q = true := SeqAt.eqv_refl q (Bool.and_eq_true_iff.mp h).1
theorem ne_self {s : Sto} {q : PyData} (h : SeqAt.shaped q = true) : cmpop .ne (.p q) (.p q) s = .ok (.p (.bool false)) s := by
  rw [ne_p h h, eqv_self h]
  rfl
theorem tw_shaped (q : PyData) : SeqAt.shaped (twrong q) = true := by
  have h1 : ∀ x : Str, PyData.canLay0 (.str x) = true → SeqAt.shaped (t1 x) = true := fun x hx => by
    show ((PyData.canLay0 (.str x) && true) && decide _) = true
    rw [hx]
    rfl
  have h2 : ∀ (x : Str) (i : Nat), PyData.canLay0 (.str x) = true → SeqAt.shaped (t2 x i) = true := fun x i hx => by
    show ((PyData.canLay0 (.str x) && (true && true)) && decide _) = true
    rw [hx]
    rfl
  have p1 : PyData.canLay0 (.str "town") = true := by decide +kernel
  have p2 : PyData.canLay0 (.str "places") = true := by decide +kernel
  have p3 : PyData.canLay0 (.str "roads") = true := by decide +kernel
  have p4 : PyData.canLay0 (.str "road") = true := by decide +kernel
  have p5 : PyData.canLay0 (.str "bare") = true := by decide +kernel
  have r : ∀ many rs, SeqAt.shaped (twR many rs) = true := fun many rs => by
    unfold twR
    split
    · exact h2 _ _ p4
    · split
      · exact h2 _ _ p5
      · decide
  have b : ∀ many x, SeqAt.shaped (twB many x) = true := fun many x => by
    unfold twB
    split
    · split
      · exact r _ _
      · exact h1 _ p3
    · exact h1 _ p3
  have a : ∀ x y, SeqAt.shaped (twA x y) = true := fun x y => by
    unfold twA
    split
    · split
      · exact b _ _
      · exact h1 _ p2
    · exact h1 _ p2
  unfold twrong
  split
  · exact a _ _
  · exact h1 _ p1
/-- repr's text, the same both times -/
theorem str_same {s : Sto} {a : Str} : cmpop .ne (.p (.str a)) (.p (.str a)) s = .ok (.p (.bool false)) s := by
  unfold cmpop sEq sEs
  dsimp only
  rw [decide_eq_true rfl]
  rfl
theorem town_rp {b many : Int} {ls : List (Int × Int)} (h : Tw b many ls) (hb : b ≤ 8) : Bt (townP many ls) := bt_pair (decide_eq_true (by have := h.m1; have := h.m2; omega)) rfl (by rw [List.length_map]; have := h.l2; omega) (rd_pr h hb)
theorem bt_repr {q : PyData} (h : Bt q) : RpOk q := rp_ok h.r (by decide) (by decide)
theorem bt2_repr {a b : PyData} (ha : Bt a) (hb : Bt b) : RpOk (.list [a, b]) := rp_ok (ns := [2, 17, 17, 3]) (rp_lst.mpr ⟨Nat.le_refl _, fun x hx => by
  simp only [List.mem_cons, List.not_mem_nil, or_false] at hx
  rcases hx with rfl | rfl
  · exact ha.r
  · exact hb.r⟩) (by decide) (by decide)
/-! a great number -/
abbrev tenI : Int := 10 ^ Int.toNat 60
theorem great_log {n : Nat} (hn : 0 < n) : (tenI ^ n).natAbs.log2 < 200 * n := by
  have e : (tenI ^ n).natAbs = (10 ^ 60) ^ n := by
    rw [Int.natAbs_pow]
    rfl
  rw [e, Nat.log2_lt (by exact Nat.ne_of_gt (Nat.pow_pos (by decide +kernel))), Nat.pow_mul]
  exact Nat.pow_lt_pow_left (by decide +kernel) (by omega)
theorem great_mul {n : Nat} (hn : 0 < n) (h : n ≤ 100) : CMul (tenI ^ n) tenI ∨ CMulW (tenI ^ n) tenI := by
  refine .inr ?_
  have h1 := great_log hn
  have h2 := great_log (n := 1) (by decide)
  rw [Int.pow_succ, Int.pow_zero, Int.one_mul] at h2
  show (tenI ^ n).natAbs.log2 + tenI.natAbs.log2 < 1000000
  omega
theorem great_ge {n : Nat} (hn : 0 < n) : (100 : Int) ≤ tenI ^ n := by
  obtain ⟨m, rfl⟩ : ∃ m, n = m + 1 := ⟨n - 1, by omega⟩
  have h1 : (1 : Int) ≤ tenI ^ m := Int.pow_pos (by decide +kernel)
  have h2 : (100 : Int) ≤ tenI := by decide +kernel
  rw [Int.pow_succ]
  have := Int.mul_le_mul h1 h2 (by decide) (by omega)
  omega
def bBody (tw be wr du ea le pk rf : Nat) : Ss := (.cons (.asg (.nm 3) (.call tw (.cons (.v 1) (.cons (.k (.int 8)) .nil)))) (.cons (.asg (.nm 4) (.call be (.cons (.v 1) (.cons (.v 3) .nil)))) (.cons (.for_ (.nm 5) (.seq (.lst false (.cons (.v 3) (.cons (.v 4) (.cons (.call be (.cons (.v 1) (.cons (.v 3) .nil))) .nil))))) (.cons (.asg (.nm 6) (.bi .repr false (.v 5))) (.cons (.ifs (.orr (.cmp .ne (.call wr (.cons (.v 5) .nil)) (.call du (.cons (.v 5) .nil))) (.cmp .ne (.bi .repr false (.v 5)) (.v 6))) (.cons (.ret (.k (.bool false))) .nil) .nil) .nil))) (.cons (.asg (.nm 6) (.bi .repr false (.lst false (.cons (.v 3) (.cons (.v 4) .nil))))) (.cons (.ifs (.cmp .ne (.lc false (.call ea (.cons (.v 3) (.cons (.v 10) .nil))) [10] (.nm 10) (.rng (.ix (.v 3) (.k (.int 0)))) .no) (.lc false (.call le (.cons (.v 3) (.cons (.v 10) .nil))) [10] (.nm 10) (.rng (.ix (.v 3) (.k (.int 0)))) .no)) (.cons (.ret (.k (.bool false))) .nil) .nil) (.cons (.asg (.nm 7) (.bin .pow false (.k (.int 10)) (.k (.int 60)))) (.cons (.for_ (.nm 8) (.rng (.k (.int 80))) (.cons (.asg (.nm 7) (.bin .mul false (.v 7) (.bin .pow false (.k (.int 10)) (.k (.int 60))))) .nil)) (.cons (.asg (.nm 9) (.call pk (.cons (.v 1) (.cons (.lst false (.cons (.ix (.v 3) (.k (.int 0))) (.cons (.neg (.k (.int 1))) (.cons (.k .none) (.cons (.k (.bool true)) (.cons (.k (.str "0")) (.cons (.tup (.cons (.k (.int 0)) .nil)) (.cons (.bin .pow false (.k (.int 10)) (.k (.int 29))) (.cons (.v 7) (.cons (.bin .sub false (.k (.int 0)) (.v 7)) .nil)))))))))) .nil)))) (.cons (.ifs (.cmp .ne (.call rf (.cons (.v 3) (.cons (.v 9) .nil))) (.lst false (.cons (.k (.bool true)) (.cons (.k (.bool true)) .nil)))) (.cons (.ret (.k (.bool false))) .nil) .nil) (.cons (.ifs (.an (.cmp .isn (.call du (.cons (.v 4) .nil)) (.k .none)) (.cmp .ne (.call rf (.cons (.v 4) (.cons (.v 9) .nil))) (.lst false (.cons (.k (.str "town")) (.cons (.call du (.cons (.v 4) .nil)) .nil))))) (.cons (.ret (.k (.bool false))) .nil) .nil) (.cons (.ifs (.cmp .ne (.bi .repr false (.lst false (.cons (.v 3) (.cons (.v 4) .nil)))) (.v 6)) (.cons (.ret (.k (.bool false))) .nil) .nil) .nil)))))))))))
def bLaw (pu tw be wr du ea le pk rf : Nat) : Ss := (.cons (.asg (.nm 1) (.call pu (.cons (.v 0) .nil))) (.cons (.for_ (.nm 2) (.rng (.k (.int 6))) (bBody tw be wr du ea le pk rf)) (.cons (.ret (.k (.bool true))) .nil)))
theorem it_p3 {P : Pg} {e : Env} {s s1 : Sto} {a : E} {x y z : PyData} (h : ev P a e s = .ok (.p (.list [x, y, z])) s1) : evi P (.seq a) e s = .ok [.one (.p x), .one (.p y), .one (.p z)] s1 := it_lst h
/-- the three things: looked at alike, told alike -/
theorem things_ev {P : Pg} {be wr du : Nat} {e1 : Env} {s : Sto} (hw : WrongF (P.Φ wr)) (hdu : WrongF (P.Φ du)) {q : PyData} (hq : Bt q) {v0 v1 v2 v3 v4 z6 v7 v8 v9 v10 : Option D} :
    exs P (.cons (.asg (.nm 6) (.bi .repr false (.v 5))) (.cons (.ifs (.orr (.cmp .ne (.call wr (.cons (.v 5) .nil)) (.call du (.cons (.v 5) .nil))) (.cmp .ne (.bi .repr false (.v 5)) (.v 6))) (.cons (.ret (.k (.bool false))) .nil) .nil) .nil)) [v0, v1, v2, v3, v4, some (.p q), z6, v7, v8, v9, v10] s = .nx [v0, v1, v2, v3, v4, some (.p q), some (.p (.str q.shown)), v7, v8, v9, v10] s := by
  rw [st_asg (by simp only [ev_v, ev_k, ev_g, ev_tup, ev_lst, ev_bin, ev_neg, ev_nt, ev_cmp, ev_chn, ev_an, ev_orr, ev_ife, ev_ix, ev_sl, ev_rev, ev_call, ev_bi, ev_isi, ev_isx, ev_app, ev_ins, ev_frz, ev_fld, evs_nil, evs_cons, evo_no, evo_so, G.R.bind_ok, rOr_some, vr_s, dInt_i, dBool_b, b_add, b_sub, b_pow18, b_pow9, c_lt, c_le, c_gt, c_ge, c_is, c_isn, List.getElem?_cons_succ, List.getElem?_cons_zero, List.set_cons_succ, List.set_cons_zero, brR_t, brR_f, r_repr (bt_repr hq)] <;> rfl) rfl]
  simp only [List.set_cons_succ, List.set_cons_zero]
  rw [st_ifF (by simp only [ev_v, ev_k, ev_g, ev_tup, ev_lst, ev_bin, ev_neg, ev_nt, ev_cmp, ev_chn, ev_an, ev_orr, ev_ife, ev_ix, ev_sl, ev_rev, ev_call, ev_bi, ev_isi, ev_isx, ev_app, ev_ins, ev_frz, ev_fld, evs_nil, evs_cons, evo_no, evo_so, G.R.bind_ok, rOr_some, vr_s, dInt_i, dBool_b, b_add, b_sub, b_pow18, b_pow9, c_lt, c_le, c_gt, c_ge, c_is, c_isn, List.getElem?_cons_succ, List.getElem?_cons_zero, List.set_cons_succ, List.set_cons_zero, brR_t, brR_f, hw hq.f, hdu hq.f, ne_self (tw_shaped q), r_repr (bt_repr hq), str_same] <;> rfl), st_nil, RS.nxt_nx, st_nil]
theorem endsAll_lay {ls : List (Int × Int)} : ∀ l : List Nat, PyData.canLayAll0 (l.map fun (v : Nat) => PyData.list ((ends ls (v : Int)).map enP)) = true ∧ PyData.depthAll (l.map fun (v : Nat) => PyData.list ((ends ls (v : Int)).map enP)) ≤ 2
  | [] => ⟨rfl, Nat.zero_le _⟩
  | v :: l => by
    obtain ⟨h1, h2⟩ := endsAll_lay (ls := ls) l
    obtain ⟨k1, k2⟩ := ends_lay (ends ls (v : Int))
    refine ⟨?_, ?_⟩
    · show (PyData.canLayAll0 ((ends ls (v : Int)).map enP) && PyData.canLayAll0 _) = true
      rw [k1, h1]; rfl
    · show max (PyData.depthAll ((ends ls (v : Int)).map enP) + 1) (PyData.depthAll _) ≤ 2
      omega
theorem endsAll_shaped {ls : List (Int × Int)} (l : List Nat) : SeqAt.shaped (.list (l.map fun (v : Nat) => PyData.list ((ends ls (v : Int)).map enP))) = true := by
  obtain ⟨h1, h2⟩ := endsAll_lay (ls := ls) l
  show (PyData.canLayAll0 _ && decide (PyData.depthAll _ + 1 ≤ 64)) = true
  rw [h1, decide_eq_true (by omega)]
  rfl
/-- the ends of each place, by a def that tells them -/
theorem ends_lc {P : Pg} {f : Nat} {e : Env} {s : Sto} {many : Int} {ls : List (Int × Int)} (h1 : 1 ≤ many) (h8 : many ≤ 8) (h3 : e[3]? = some (some (.p (townP many ls)))) (hn : 10 < e.length) (hf : ∀ v : Nat, (v : Int) < many → P.Φ f [.p (townP many ls), .p (.int (v : Int))] s = .ok (.p (.list ((ends ls (v : Int)).map enP))) s) :
    ev P (.lc false (.call f (.cons (.v 3) (.cons (.v 10) .nil))) [10] (.nm 10) (.rng (.ix (.v 3) (.k (.int 0)))) .no) e s = .ok (.p (.list ((List.range many.toNat).map fun (v : Nat) => PyData.list ((ends ls (v : Int)).map enP)))) s := by
  have hi := r_rng (P := P) (e := e) (s := s) (s1 := s) (a := .ix (.v 3) (.k (.int 0))) (i := many) (by
    simp only [ev_v, ev_k, ev_g, ev_tup, ev_lst, ev_bin, ev_neg, ev_nt, ev_cmp, ev_chn, ev_an, ev_orr, ev_ife, ev_ix, ev_sl, ev_rev, ev_call, ev_bi, ev_isi, ev_isx, ev_app, ev_ins, ev_frz, ev_fld, evs_nil, evs_cons, evo_no, evo_so, G.R.bind_ok, rOr_some, vr_s, dInt_i, dBool_b, b_add, b_sub, b_pow18, b_pow9, c_lt, c_le, c_gt, c_ge, c_is, c_isn, List.getElem?_cons_succ, List.getElem?_cons_zero, List.set_cons_succ, List.set_cons_zero, brR_t, brR_f, h3]
    unfold townP
    rw [i_ix (asSq_t _) (at_town0 many ls)]) (by omega) (by omega)
  have key := ev_lc (P := P) (fl := false) (el := .call f (.cons (.v 3) (.cons (.v 10) .nil))) (ow := [10]) (tg := .nm 10) (c := .no) hi (by rw [List.length_map, List.length_range]; omega) (lcL_filt (fun (v : Nat) => Item.one (.p (.int (v : Int)))) (fun _ => true) (fun v => .p (.list ((ends ls (v : Int)).map enP))) (by
    intro v hv
    have hv' := List.mem_range.mp hv
    refine noX_of _ _ _ ?_
    rw [bind_nm (by simp only [wipeE, List.length_set]; exact hn), rOr_some]
    simp only [evc, G.R.bind_ok, if_true]
    have g3 : ((wipeE e [10]).set 10 (some (.p (.int (v : Int)))))[3]? = some (some (.p (townP many ls))) := by
      simp only [wipeE]
      rw [List.getElem?_set_ne (by decide), List.getElem?_set_ne (by decide)]
      exact h3
    have g10 : ((wipeE e [10]).set 10 (some (.p (.int (v : Int)))))[10]? = some (some (.p (.int (v : Int)))) := List.getElem?_set_self (by simp only [wipeE, List.length_set]; exact hn)
    simp only [ev_call, evs_cons, evs_nil, ev_v, g3, g10, vr_s, G.R.bind_ok, hf v (by omega)]))
  rw [show ((List.range many.toNat).filter fun _ => true) = List.range many.toNat from List.filter_eq_self.mpr fun _ _ => rfl] at key
  rw [key]
  have := mkL_p ((List.range many.toNat).map fun (v : Nat) => PyData.list ((ends ls (v : Int)).map enP)) s (by rw [List.length_map, List.length_range]; omega)
  rw [List.map_map] at this
  exact this
theorem bad_int {many v : Int} (h : ¬ (0 ≤ v ∧ v < many)) : plOk many (.int v) = false := decide_eq_false h
theorem strange_bad {many g : Int} (h1 : 1 ≤ many) (h8 : many ≤ 8) (hg : 100 ≤ g) : ∀ x ∈ ([.int many, .int (-1), .none, .bool true, .str "0", .tuple [.int 0], .int (10 ^ Int.toNat 29), .int g, .int (0 - g)] : List PyData), noD x = true ∧ plOk many x = false := by
  intro x hx
  simp only [List.mem_cons, List.not_mem_nil, or_false] at hx
  rcases hx with rfl | rfl | rfl | rfl | rfl | rfl | rfl | rfl | rfl
  · exact ⟨rfl, bad_int (by omega)⟩
  · exact ⟨rfl, bad_int (by omega)⟩
  · exact ⟨rfl, rfl⟩
  · exact ⟨rfl, rfl⟩
  · exact ⟨rfl, rfl⟩
  · exact ⟨rfl, rfl⟩
  · refine ⟨rfl, bad_int ?_⟩
    have : (10 : Int) ^ Int.toNat 29 = 100000000000000000000000000000 := by decide +kernel
    rw [this]
    omega
  · exact ⟨rfl, bad_int (by omega)⟩
  · exact ⟨rfl, bad_int (by omega)⟩
theorem great_ev {P : Pg} {s : Sto} {v0 v1 v2 v3 v4 v5 v6 z8 v9 v10 : Option D} : ∃ (z : Option D) (n : Nat), 0 < n ∧ n ≤ 100 ∧ forL (fun x e1 s2 => bindS (.nm 8) x s2 e1 fun e2 => exs P (.cons (.asg (.nm 7) (.bin .mul false (.v 7) (.bin .pow false (.k (.int 10)) (.k (.int 60))))) .nil) e2 s2) ((List.range (80 : Int).toNat).map fun (k : Nat) => Item.one (.p (.int (k : Int)))) [v0, v1, v2, v3, v4, v5, v6, some (.p (.int tenI)), z8, v9, v10] s = .nx [v0, v1, v2, v3, v4, v5, v6, some (.p (.int (tenI ^ n))), z, v9, v10] s := by
  obtain ⟨e', s', hf, rfl, z, rfl⟩ := forL_inv (f := fun x e1 s2 => bindS (.nm 8) x s2 e1 fun e2 => exs P (.cons (.asg (.nm 7) (.bin .mul false (.v 7) (.bin .pow false (.k (.int 10)) (.k (.int 60))))) .nil) e2 s2) (items := (List.range (80 : Int).toNat).map fun (k : Nat) => Item.one (.p (.int (k : Int)))) (fun i e s2 => s2 = s ∧ ∃ z, e = [v0, v1, v2, v3, v4, v5, v6, some (.p (.int (tenI ^ (i + 1)))), z, v9, v10]) (by
    rintro i x e s2 hx ⟨rfl, z, rfl⟩
    obtain ⟨hi, rfl⟩ := rng_get hx
    have hi2 : i < 80 := hi
    refine ⟨[v0, v1, v2, v3, v4, v5, v6, some (.p (.int (tenI ^ (i + 1 + 1)))), some (.p (.int (i : Int))), v9, v10], s2, ?_, rfl, _, rfl⟩
    show exs P _ [v0, v1, v2, v3, v4, v5, v6, some (.p (.int (tenI ^ (i + 1)))), some (.p (.int (i : Int))), v9, v10] s2 = _
    rw [st_asg (by simp only [ev_v, ev_k, ev_g, ev_tup, ev_lst, ev_bin, ev_neg, ev_nt, ev_cmp, ev_chn, ev_an, ev_orr, ev_ife, ev_ix, ev_sl, ev_rev, ev_call, ev_bi, ev_isi, ev_isx, ev_app, ev_ins, ev_frz, ev_fld, evs_nil, evs_cons, evo_no, evo_so, G.R.bind_ok, rOr_some, vr_s, dInt_i, dBool_b, b_add, b_sub, b_pow18, b_pow9, c_lt, c_le, c_gt, c_ge, c_is, c_isn, List.getElem?_cons_succ, List.getElem?_cons_zero, List.set_cons_succ, List.set_cons_zero, brR_t, brR_f, b_pow false (i := 10) (j := 60) (by decide +kernel), b_mul false (great_mul (n := i + 1) (by omega) (by omega))] <;> rfl) rfl, st_nil]
    simp only [List.set_cons_succ, List.set_cons_zero]
    rw [Int.pow_succ tenI (i + 1)]) (e := [v0, v1, v2, v3, v4, v5, v6, some (.p (.int tenI)), z8, v9, v10]) (s := s) ⟨rfl, z8, by rw [Nat.zero_add, Int.pow_succ, Int.pow_zero, Int.one_mul]⟩
  exact ⟨z, _, by omega, by simp, hf⟩
theorem things3 {P : Pg} {wr du : Nat} {s : Sto} (hw : WrongF (P.Φ wr)) (hdu : WrongF (P.Φ du)) {a b q : PyData} (ha : Bt a) (hb : Bt b) (hq : Bt q) {v0 v1 v2 v3 v4 z5 z6 v7 v8 v9 v10 : Option D} :
    forL (fun x e1 s2 => bindS (.nm 5) x s2 e1 fun e2 => exs P (.cons (.asg (.nm 6) (.bi .repr false (.v 5))) (.cons (.ifs (.orr (.cmp .ne (.call wr (.cons (.v 5) .nil)) (.call du (.cons (.v 5) .nil))) (.cmp .ne (.bi .repr false (.v 5)) (.v 6))) (.cons (.ret (.k (.bool false))) .nil) .nil) .nil)) e2 s2) [.one (.p a), .one (.p b), .one (.p q)] [v0, v1, v2, v3, v4, z5, z6, v7, v8, v9, v10] s = .nx [v0, v1, v2, v3, v4, some (.p q), some (.p (.str q.shown)), v7, v8, v9, v10] s := by
  have one : ∀ (x : PyData) (y5 y6 : Option D), Bt x → bindS (.nm 5) (.one (.p x)) s [v0, v1, v2, v3, v4, y5, y6, v7, v8, v9, v10] (fun e2 => exs P (.cons (.asg (.nm 6) (.bi .repr false (.v 5))) (.cons (.ifs (.orr (.cmp .ne (.call wr (.cons (.v 5) .nil)) (.call du (.cons (.v 5) .nil))) (.cmp .ne (.bi .repr false (.v 5)) (.v 6))) (.cons (.ret (.k (.bool false))) .nil) .nil) .nil)) e2 s) = .nx [v0, v1, v2, v3, v4, some (.p x), some (.p (.str x.shown)), v7, v8, v9, v10] s := fun x y5 y6 hx => things_ev (e1 := []) (be := 0) hw hdu hx
  simp only [forL, one _ _ _ ha, one _ _ _ hb, one _ _ _ hq]
theorem tw_dep (q : PyData) : (twrong q).depth ≤ 1 := by
  have h1 : ∀ x : Str, (t1 x).depth ≤ 1 := fun x => Nat.le_refl _
  have h2 : ∀ (x : Str) (i : Nat), (t2 x i).depth ≤ 1 := fun x i => Nat.le_refl _
  have r : ∀ many rs, (twR many rs).depth ≤ 1 := fun many rs => by
    unfold twR
    split
    · exact h2 _ _
    · split
      · exact h2 _ _
      · exact Nat.zero_le _
  have b : ∀ many x, (twB many x).depth ≤ 1 := fun many x => by
    unfold twB
    split
    · split
      · exact r _ _
      · exact h1 _
    · exact h1 _
  have a : ∀ x y, (twA x y).depth ≤ 1 := fun x y => by
    unfold twA
    split
    · split
      · exact b _ _
      · exact h1 _
    · exact h1 _
  unfold twrong
  split
  · exact a _ _
  · exact h1 _
theorem wrd_shaped {q : PyData} : SeqAt.shaped (.list [.str "town", twrong q]) = true := by
  have h1 := (Bool.and_eq_true_iff.mp (show ((twrong q).canLay0 && decide ((twrong q).depth ≤ 64)) = true from tw_shaped q)).1
  have h2 := tw_dep q
  have p1 : PyData.canLay0 (.str "town") = true := by decide +kernel
  show ((PyData.canLay0 (.str "town") && ((twrong q).canLay0 && true)) && decide (max 0 (max (twrong q).depth 0) + 1 ≤ 64)) = true
  rw [p1, h1, decide_eq_true (by omega)]
  rfl
theorem body_ev (P : Pg) {tw be wr du ea le pk rf m t : Nat} (htw : TownF (P.Φ tw)) (hbe : BentF (P.Φ be)) (hwr : WrongF (P.Φ wr)) (hdu : WrongF (P.Φ du)) (hea : EndsAtF m t (P.Φ ea)) (hle : EndsF (P.Φ le)) (hpk : PickF (P.Φ pk)) (hrf : RefF (P.Φ rf)) {s : Sto} {p c k : Nat} (h : Pu s p c (k + 1200)) {v0 z2 z3 z4 z5 z6 z7 z8 z9 z10 : Option D} :
    ∃ (w3 w4 w5 w6 w7 w8 w9 : Option D) (s' : Sto), exs P (bBody tw be wr du ea le pk rf) [v0, some (.o p), z2, z3, z4, z5, z6, z7, z8, z9, z10] s = .nx [v0, some (.o p), z2, w3, w4, w5, w6, w7, w8, w9, z10] s' ∧ Pu s' p c k := by
  obtain ⟨many, ls, s1, e1, hT, pu1, kp1⟩ := htw (b := 8) (k := k + 100) (h.le (by omega)) (by decide) (by decide)
  obtain ⟨q, s2, e2, hq, pu2, kp2⟩ := hbe (k := k + 80) (pu1.le (by omega)) hT
  obtain ⟨q', s3, e3, hq', pu3, kp3⟩ := hbe (k := k + 40) (pu2.le (by omega)) hT
  have m1 := hT.m1
  have m2 := hT.m2
  obtain ⟨z8', n, n0, n1, hg⟩ := great_ev (P := P) (s := s3) (v0 := v0) (v1 := some (.o p)) (v2 := z2) (v3 := some (.p (townP many ls))) (v4 := some (.p q)) (v5 := some (.p q')) (v6 := some (.p (.str (PyData.list [townP many ls, q]).shown))) (z8 := z8) (v9 := z9) (v10 := z10)
  obtain ⟨x, s4, e4, xm, pu4, kp4⟩ := hpk (ds := [.int many, .int (-1), .none, .bool true, .str "0", .tuple [.int 0], .int (10 ^ Int.toNat 29), .int (tenI ^ n), .int (0 - tenI ^ n)]) (k := k) (pu3.le (by omega)) (by simp) (by simp)
  obtain ⟨xd, xb⟩ := strange_bad m1 m2 (great_ge n0) x xm
  refine ⟨some (.p (townP many ls)), some (.p q), some (.p q'), some (.p (.str (PyData.list [townP many ls, q]).shown)), some (.p (.int (tenI ^ n))), z8', some (.p x), s4, ?_, pu4⟩
  unfold bBody
  rw [st_asg (by simp only [ev_v, ev_k, ev_g, ev_tup, ev_lst, ev_bin, ev_neg, ev_nt, ev_cmp, ev_chn, ev_an, ev_orr, ev_ife, ev_ix, ev_sl, ev_rev, ev_call, ev_bi, ev_isi, ev_isx, ev_app, ev_ins, ev_frz, ev_fld, evs_nil, evs_cons, evo_no, evo_so, G.R.bind_ok, rOr_some, vr_s, dInt_i, dBool_b, b_add, b_sub, b_pow18, b_pow9, c_lt, c_le, c_gt, c_ge, c_is, c_isn, List.getElem?_cons_succ, List.getElem?_cons_zero, List.set_cons_succ, List.set_cons_zero, brR_t, brR_f, e1] <;> rfl) rfl]
  simp only [List.set_cons_succ, List.set_cons_zero]
  rw [st_asg (by simp only [ev_v, ev_k, ev_g, ev_tup, ev_lst, ev_bin, ev_neg, ev_nt, ev_cmp, ev_chn, ev_an, ev_orr, ev_ife, ev_ix, ev_sl, ev_rev, ev_call, ev_bi, ev_isi, ev_isx, ev_app, ev_ins, ev_frz, ev_fld, evs_nil, evs_cons, evo_no, evo_so, G.R.bind_ok, rOr_some, vr_s, dInt_i, dBool_b, b_add, b_sub, b_pow18, b_pow9, c_lt, c_le, c_gt, c_ge, c_is, c_isn, List.getElem?_cons_succ, List.getElem?_cons_zero, List.set_cons_succ, List.set_cons_zero, brR_t, brR_f, e2] <;> rfl) rfl]
  simp only [List.set_cons_succ, List.set_cons_zero]
  rw [st_for (it_p3 (by simp only [ev_v, ev_k, ev_g, ev_tup, ev_lst, ev_bin, ev_neg, ev_nt, ev_cmp, ev_chn, ev_an, ev_orr, ev_ife, ev_ix, ev_sl, ev_rev, ev_call, ev_bi, ev_isi, ev_isx, ev_app, ev_ins, ev_frz, ev_fld, evs_nil, evs_cons, evo_no, evo_so, G.R.bind_ok, rOr_some, vr_s, dInt_i, dBool_b, b_add, b_sub, b_pow18, b_pow9, c_lt, c_le, c_gt, c_ge, c_is, c_isn, List.getElem?_cons_succ, List.getElem?_cons_zero, List.set_cons_succ, List.set_cons_zero, brR_t, brR_f, e3, mkL_3] <;> rfl)) (things3 hwr hdu (town_rp hT (by decide)) hq hq')]
  have rr := r_repr (fl := false) (s := s3) (bt2_repr (town_rp hT (by decide)) hq)
  rw [st_asg (by simp only [ev_v, ev_k, ev_g, ev_tup, ev_lst, ev_bin, ev_neg, ev_nt, ev_cmp, ev_chn, ev_an, ev_orr, ev_ife, ev_ix, ev_sl, ev_rev, ev_call, ev_bi, ev_isi, ev_isx, ev_app, ev_ins, ev_frz, ev_fld, evs_nil, evs_cons, evo_no, evo_so, G.R.bind_ok, rOr_some, vr_s, dInt_i, dBool_b, b_add, b_sub, b_pow18, b_pow9, c_lt, c_le, c_gt, c_ge, c_is, c_isn, List.getElem?_cons_succ, List.getElem?_cons_zero, List.set_cons_succ, List.set_cons_zero, brR_t, brR_f, mkL_2, rr] <;> rfl) rfl]
  simp only [List.set_cons_succ, List.set_cons_zero]
  have le1 := ends_lc (P := P) (f := ea) (s := s3) (e := [v0, some (.o p), z2, some (.p (townP many ls)), some (.p q), some (.p q'), some (.p (.str (PyData.list [townP many ls, q]).shown)), z7, z8, z9, z10]) m1 m2 rfl (by show 10 < 11; decide) fun v hv => hea.good hT (by omega) hv
  have le2 := ends_lc (P := P) (f := le) (s := s3) (e := [v0, some (.o p), z2, some (.p (townP many ls)), some (.p q), some (.p q'), some (.p (.str (PyData.list [townP many ls, q]).shown)), z7, z8, z9, z10]) m1 m2 rfl (by show 10 < 11; decide) fun v hv => hle (by have := hT.l2; omega)
  rw [st_ifF (by simp only [ev_v, ev_k, ev_g, ev_tup, ev_lst, ev_bin, ev_neg, ev_nt, ev_cmp, ev_chn, ev_an, ev_orr, ev_ife, ev_ix, ev_sl, ev_rev, ev_call, ev_bi, ev_isi, ev_isx, ev_app, ev_ins, ev_frz, ev_fld, evs_nil, evs_cons, evo_no, evo_so, G.R.bind_ok, rOr_some, vr_s, dInt_i, dBool_b, b_add, b_sub, b_pow18, b_pow9, c_lt, c_le, c_gt, c_ge, c_is, c_isn, List.getElem?_cons_succ, List.getElem?_cons_zero, List.set_cons_succ, List.set_cons_zero, brR_t, brR_f, le1, le2, ne_self (endsAll_shaped _)] <;> rfl), st_nil, RS.nxt_nx]
  rw [st_asg (by simp only [ev_v, ev_k, ev_g, ev_tup, ev_lst, ev_bin, ev_neg, ev_nt, ev_cmp, ev_chn, ev_an, ev_orr, ev_ife, ev_ix, ev_sl, ev_rev, ev_call, ev_bi, ev_isi, ev_isx, ev_app, ev_ins, ev_frz, ev_fld, evs_nil, evs_cons, evo_no, evo_so, G.R.bind_ok, rOr_some, vr_s, dInt_i, dBool_b, b_add, b_sub, b_pow18, b_pow9, c_lt, c_le, c_gt, c_ge, c_is, c_isn, List.getElem?_cons_succ, List.getElem?_cons_zero, List.set_cons_succ, List.set_cons_zero, brR_t, brR_f, b_pow false (i := 10) (j := 60) (by decide +kernel)] <;> rfl) rfl]
  simp only [List.set_cons_succ, List.set_cons_zero]
  rw [st_for (r_rng (by simp only [ev_v, ev_k, ev_g, ev_tup, ev_lst, ev_bin, ev_neg, ev_nt, ev_cmp, ev_chn, ev_an, ev_orr, ev_ife, ev_ix, ev_sl, ev_rev, ev_call, ev_bi, ev_isi, ev_isx, ev_app, ev_ins, ev_frz, ev_fld, evs_nil, evs_cons, evo_no, evo_so, G.R.bind_ok, rOr_some, vr_s, dInt_i, dBool_b, b_add, b_sub, b_pow18, b_pow9, c_lt, c_le, c_gt, c_ge, c_is, c_isn, List.getElem?_cons_succ, List.getElem?_cons_zero, List.set_cons_succ, List.set_cons_zero, brR_t, brR_f] <;> rfl) (by decide) (by decide)) hg]
  have i0 := i_ix (s := s3) (asSq_t _) (at_town0 many ls)
  rw [st_asg (by simp only [ev_v, ev_k, ev_g, ev_tup, ev_lst, ev_bin, ev_neg, ev_nt, ev_cmp, ev_chn, ev_an, ev_orr, ev_ife, ev_ix, ev_sl, ev_rev, ev_call, ev_bi, ev_isi, ev_isx, ev_app, ev_ins, ev_frz, ev_fld, evs_nil, evs_cons, evo_no, evo_so, G.R.bind_ok, rOr_some, vr_s, dInt_i, dBool_b, b_add, b_sub, b_pow18, b_pow9, c_lt, c_le, c_gt, c_ge, c_is, c_isn, List.getElem?_cons_succ, List.getElem?_cons_zero, List.set_cons_succ, List.set_cons_zero, brR_t, brR_f, townP, i0, mkT_1, b_pow false (i := 10) (j := 29) (by decide +kernel), mkL_9, e4] <;> rfl) rfl]
  simp only [List.set_cons_succ, List.set_cons_zero]
  have rp4 := r_repr (fl := false) (s := s4) (bt2_repr (town_rp hT (by decide)) hq)
  have rf1 := hrf.place (s := s4) hT xd xb
  rw [st_ifF (by simp only [ev_v, ev_k, ev_g, ev_tup, ev_lst, ev_bin, ev_neg, ev_nt, ev_cmp, ev_chn, ev_an, ev_orr, ev_ife, ev_ix, ev_sl, ev_rev, ev_call, ev_bi, ev_isi, ev_isx, ev_app, ev_ins, ev_frz, ev_fld, evs_nil, evs_cons, evo_no, evo_so, G.R.bind_ok, rOr_some, vr_s, dInt_i, dBool_b, b_add, b_sub, b_pow18, b_pow9, c_lt, c_le, c_gt, c_ge, c_is, c_isn, List.getElem?_cons_succ, List.getElem?_cons_zero, List.set_cons_succ, List.set_cons_zero, brR_t, brR_f, rf1, mkL_2, ne_self (show SeqAt.shaped (.list [.bool true, .bool true]) = true by decide)] <;> rfl), st_nil, RS.nxt_nx]
  have cnd : ev P (.an (.cmp .isn (.call du (.cons (.v 4) .nil)) (.k .none)) (.cmp .ne (.call rf (.cons (.v 4) (.cons (.v 9) .nil))) (.lst false (.cons (.k (.str "town")) (.cons (.call du (.cons (.v 4) .nil)) .nil))))) [v0, some (.o p), z2, some (.p (townP many ls)), some (.p q), some (.p q'), some (.p (.str (PyData.list [townP many ls, q]).shown)), some (.p (.int (tenI ^ n))), z8', some (.p x), z10] s4 = .ok (.p (.bool false)) s4 := by
    by_cases hz : twrong q = .none
    · simp only [ev_v, ev_k, ev_g, ev_tup, ev_lst, ev_bin, ev_neg, ev_nt, ev_cmp, ev_chn, ev_an, ev_orr, ev_ife, ev_ix, ev_sl, ev_rev, ev_call, ev_bi, ev_isi, ev_isx, ev_app, ev_ins, ev_frz, ev_fld, evs_nil, evs_cons, evo_no, evo_so, G.R.bind_ok, rOr_some, vr_s, dInt_i, dBool_b, b_add, b_sub, b_pow18, b_pow9, c_lt, c_le, c_gt, c_ge, c_is, c_isn, List.getElem?_cons_succ, List.getElem?_cons_zero, List.set_cons_succ, List.set_cons_zero, brR_t, brR_f, hdu hq.f, isN_p, decide_eq_true hz, Bool.not_true]
    · simp only [ev_v, ev_k, ev_g, ev_tup, ev_lst, ev_bin, ev_neg, ev_nt, ev_cmp, ev_chn, ev_an, ev_orr, ev_ife, ev_ix, ev_sl, ev_rev, ev_call, ev_bi, ev_isi, ev_isx, ev_app, ev_ins, ev_frz, ev_fld, evs_nil, evs_cons, evo_no, evo_so, G.R.bind_ok, rOr_some, vr_s, dInt_i, dBool_b, b_add, b_sub, b_pow18, b_pow9, c_lt, c_le, c_gt, c_ge, c_is, c_isn, List.getElem?_cons_succ, List.getElem?_cons_zero, List.set_cons_succ, List.set_cons_zero, brR_t, brR_f, hdu hq.f, isN_p, decide_eq_false hz, Bool.not_false, hrf.town (s := s4) (q := x) hq.f hz, mkL_2, ne_self wrd_shaped]
  rw [st_ifF cnd, st_nil, RS.nxt_nx]
  rw [st_ifF (by simp only [ev_v, ev_k, ev_g, ev_tup, ev_lst, ev_bin, ev_neg, ev_nt, ev_cmp, ev_chn, ev_an, ev_orr, ev_ife, ev_ix, ev_sl, ev_rev, ev_call, ev_bi, ev_isi, ev_isx, ev_app, ev_ins, ev_frz, ev_fld, evs_nil, evs_cons, evo_no, evo_so, G.R.bind_ok, rOr_some, vr_s, dInt_i, dBool_b, b_add, b_sub, b_pow18, b_pow9, c_lt, c_le, c_gt, c_ge, c_is, c_isn, List.getElem?_cons_succ, List.getElem?_cons_zero, List.set_cons_succ, List.set_cons_zero, brR_t, brR_f, mkL_2, rp4, str_same] <;> rfl), st_nil, RS.nxt_nx, st_nil]
theorem law_ev (P : Pg) {pu tw be wr du ea le pk rf m t : Nat} (hpu : PurseF (P.Φ pu)) (htw : TownF (P.Φ tw)) (hbe : BentF (P.Φ be)) (hwr : WrongF (P.Φ wr)) (hdu : WrongF (P.Φ du)) (hea : EndsAtF m t (P.Φ ea)) (hle : EndsF (P.Φ le)) (hpk : PickF (P.Φ pk)) (hrf : RefF (P.Φ rf)) (ns : List Int) (hn : ns.length ≤ 63) :
    ∃ s, runB P ⟨1, 11, bLaw pu tw be wr du ea le pk rf, true⟩ [.s (ns.map PyData.int)] [] = .ok (.p (.bool true)) s := by
  obtain ⟨p, c, s1, e1, pu1⟩ := hpu ns hn
  obtain ⟨e', s', hf, ⟨z2, z3, z4, z5, z6, z7, z8, z9, z10, rfl⟩, hp⟩ := forL_inv (f := fun x e1 s2 => bindS (.nm 2) x s2 e1 fun e2 => exs P (bBody tw be wr du ea le pk rf) e2 s2) (items := (List.range (6 : Int).toNat).map fun (k : Nat) => Item.one (.p (.int (k : Int))))
    (fun i e s2 => (∃ z2 z3 z4 z5 z6 z7 z8 z9 z10, e = [some (.s (ns.map PyData.int)), some (.o p), z2, z3, z4, z5, z6, z7, z8, z9, z10]) ∧ Pu s2 p c (100000 - 1200 * i)) (by
    rintro i x e s2 hx ⟨⟨z2, z3, z4, z5, z6, z7, z8, z9, z10, rfl⟩, hp⟩
    obtain ⟨hi, rfl⟩ := rng_get hx
    have hi2 : i < 6 := hi
    obtain ⟨w3, w4, w5, w6, w7, w8, w9, s', eb, hp'⟩ := body_ev P htw hbe hwr hdu hea hle hpk hrf (k := 100000 - 1200 * (i + 1)) (hp.le (by omega)) (v0 := some (.s (ns.map PyData.int))) (z2 := some (.p (.int (i : Int)))) (z3 := z3) (z4 := z4) (z5 := z5) (z6 := z6) (z7 := z7) (z8 := z8) (z9 := z9) (z10 := z10)
    exact ⟨_, s', eb, ⟨_, _, _, _, _, _, _, _, _, rfl⟩, hp'⟩) (e := [some (.s (ns.map PyData.int)), some (.o p), none, none, none, none, none, none, none, none, none]) (s := s1) ⟨⟨_, _, _, _, _, _, _, _, _, rfl⟩, pu1.le (by decide)⟩
  refine ⟨[], ?_⟩
  have ex : exs P (bLaw pu tw be wr du ea le pk rf) (([.s (ns.map PyData.int)] : List D).map some ++ List.replicate (11 - ([.s (ns.map PyData.int)] : List D).length) none) [] = .rt (.p (.bool true)) ([] ++ s') := by
    show exs P (bLaw pu tw be wr du ea le pk rf) [some (.s (ns.map PyData.int)), none, none, none, none, none, none, none, none, none, none] [] = .rt (.p (.bool true)) s'
    unfold bLaw
    rw [st_asg (by simp only [ev_v, ev_k, ev_g, ev_tup, ev_lst, ev_bin, ev_neg, ev_nt, ev_cmp, ev_chn, ev_an, ev_orr, ev_ife, ev_ix, ev_sl, ev_rev, ev_call, ev_bi, ev_isi, ev_isx, ev_app, ev_ins, ev_frz, ev_fld, evs_nil, evs_cons, evo_no, evo_so, G.R.bind_ok, rOr_some, vr_s, dInt_i, dBool_b, b_add, b_sub, b_pow18, b_pow9, c_lt, c_le, c_gt, c_ge, c_is, c_isn, List.getElem?_cons_succ, List.getElem?_cons_zero, List.set_cons_succ, List.set_cons_zero, brR_t, brR_f, e1] <;> rfl) rfl]
    simp only [List.set_cons_succ, List.set_cons_zero]
    rw [st_for (r_rng (by simp only [ev_v, ev_k, ev_g, ev_tup, ev_lst, ev_bin, ev_neg, ev_nt, ev_cmp, ev_chn, ev_an, ev_orr, ev_ife, ev_ix, ev_sl, ev_rev, ev_call, ev_bi, ev_isi, ev_isx, ev_app, ev_ins, ev_frz, ev_fld, evs_nil, evs_cons, evo_no, evo_so, G.R.bind_ok, rOr_some, vr_s, dInt_i, dBool_b, b_add, b_sub, b_pow18, b_pow9, c_lt, c_le, c_gt, c_ge, c_is, c_isn, List.getElem?_cons_succ, List.getElem?_cons_zero, List.set_cons_succ, List.set_cons_zero, brR_t, brR_f] <;> rfl) (by decide) (by decide)) hf]
    rw [st_ret (by simp only [ev_v, ev_k, ev_g, ev_tup, ev_lst, ev_bin, ev_neg, ev_nt, ev_cmp, ev_chn, ev_an, ev_orr, ev_ife, ev_ix, ev_sl, ev_rev, ev_call, ev_bi, ev_isi, ev_isx, ev_app, ev_ins, ev_frz, ev_fld, evs_nil, evs_cons, evo_no, evo_so, G.R.bind_ok, rOr_some, vr_s, dInt_i, dBool_b, b_add, b_sub, b_pow18, b_pow9, c_lt, c_le, c_gt, c_ge, c_is, c_isn, List.getElem?_cons_succ, List.getElem?_cons_zero, List.set_cons_succ, List.set_cons_zero, brR_t, brR_f] <;> rfl)]
  exact run_app ex
end
end G

namespace G.A
open PySem PySem.Spec PyProof.Rows L2 G
noncomputable section
def top (i : Nat) : Stmt := PySem.Challenge.pw_cameposts_k01_towns_looked_at.main.body.getD i (.Pass ⟨0, 0, 0, 0⟩)
-- 0: is_whole
abbrev s0 : Stmt := top 7
def b0 : Ss := (.cons (.ret (.an (.isi (.v 0) .int) (.nt (.isi (.v 0) .bool)))) .nil)
abbrev f0 : FnI := ⟨1, 1, b0, true⟩
def t0 : FnT := ⟨⟨("is_whole", none), "is_whole", "is_whole", defArgs s0, defBody s0, defScope s0, [], []⟩, ["thing"], ["thing"], f0⟩
theorem bd0 : BindT t0 := fun _ _ _ _ _ _ us hl => match us, hl with | [_], _ => rfl
-- 1: is_pair
abbrev s1 : Stmt := top 8
def b1 : Ss := (.cons (.ret (.an (.isi (.v 0) .tuple) (.an (.cmp .eq (.bi .len false (.v 0)) (.k (.int 2))) (.bi .all false (.lc false (.call 0 (.cons (.v 1) .nil)) [1] (.nm 1) (.seq (.v 0)) .no))))) .nil)
abbrev f1 : FnI := ⟨1, 2, b1, true⟩
def t1 : FnT := ⟨⟨("is_pair", none), "is_pair", "is_pair", defArgs s1, defBody s1, defScope s1, [], []⟩, ["thing", "one"], ["thing"], f1⟩
theorem bd1 : BindT t1 := fun _ _ _ _ _ _ us hl => match us, hl with | [_], _ => rfl
-- 2: place_of
abbrev s2 : Stmt := top 9
def b2 : Ss := (.cons (.ret (.ix (.ix (.ix (.v 0) (.k (.int 1))) (.ix (.v 1) (.k (.int 0)))) (.ix (.v 1) (.k (.int 1))))) .nil)
abbrev f2 : FnI := ⟨2, 2, b2, true⟩
def t2 : FnT := ⟨⟨("place_of", none), "place_of", "place_of", defArgs s2, defBody s2, defScope s2, [], []⟩, ["town", "end"], ["town", "end"], f2⟩
theorem bd2 : BindT t2 := fun _ _ _ _ _ _ us hl => match us, hl with | [_, _], _ => rfl
-- 3: all_ends
abbrev s3 : Stmt := top 10
def b3 : Ss := (.cons (.ret (.lc2 false (.tup (.cons (.v 1) (.cons (.v 2) .nil))) [1, 2] (.nm 1) (.rng (.bi .len false (.ix (.v 0) (.k (.int 1))))) (.nm 2) (.seq (.tup (.cons (.k (.int 0)) (.cons (.k (.int 1)) .nil)))) [2] .no)) .nil)
abbrev f3 : FnI := ⟨1, 3, b3, true⟩
def t3 : FnT := ⟨⟨("all_ends", none), "all_ends", "all_ends", defArgs s3, defBody s3, defScope s3, [], []⟩, ["town", "road", "side"], ["town"], f3⟩
theorem bd3 : BindT t3 := fun _ _ _ _ _ _ us hl => match us, hl with | [_], _ => rfl
-- 4: ends_of
abbrev s4 : Stmt := top 11
def b4 : Ss := (.cons (.ret (.lc false (.v 2) [2] (.nm 2) (.seq (.call 3 (.cons (.v 0) .nil))) (.so (.cmp .eq (.call 2 (.cons (.v 0) (.cons (.v 2) .nil))) (.v 1))))) .nil)
abbrev f4 : FnI := ⟨2, 3, b4, true⟩
def t4 : FnT := ⟨⟨("ends_of", none), "ends_of", "ends_of", defArgs s4, defBody s4, defScope s4, [], []⟩, ["town", "place", "end"], ["town", "place"], f4⟩
theorem bd4 : BindT t4 := fun _ _ _ _ _ _ us hl => match us, hl with | [_, _], _ => rfl
-- 5: town_wrong
abbrev s5 : Stmt := top 12
def b5 : Ss := (.cons (.ifs (.orr (.nt (.isi (.v 0) .tuple)) (.cmp .ne (.bi .len false (.v 0)) (.k (.int 2)))) (.cons (.ret (.tup (.cons (.k (.str "town")) .nil))) .nil) .nil) (.cons (.asg (.tp [2, 3]) (.v 0)) (.cons (.ifs (.orr (.nt (.call 0 (.cons (.v 2) .nil))) (.nt (.chn .le .le (.k (.int 1)) (.v 2) (.g 0)))) (.cons (.ret (.tup (.cons (.k (.str "places")) .nil))) .nil) .nil) (.cons (.ifs (.orr (.nt (.isi (.v 3) .list)) (.nt (.chn .le .le (.k (.int 1)) (.bi .len false (.v 3)) (.g 1)))) (.cons (.ret (.tup (.cons (.k (.str "roads")) .nil))) .nil) .nil) (.cons (.for_ (.tp [4, 5]) (.enu (.v 3)) (.cons (.ifs (.orr (.nt (.call 1 (.cons (.v 5) .nil))) (.orr (.cmp .lt (.bi .min false (.v 5)) (.k (.int 0))) (.cmp .ge (.bi .max false (.v 5)) (.v 2)))) (.cons (.ret (.tup (.cons (.k (.str "road")) (.cons (.v 4) .nil)))) .nil) .nil) .nil)) (.cons (.for_ (.nm 1) (.rng (.v 2)) (.cons (.ifs (.cmp .eq (.call 4 (.cons (.v 0) (.cons (.v 1) .nil))) (.lst false .nil)) (.cons (.ret (.tup (.cons (.k (.str "bare")) (.cons (.v 1) .nil)))) .nil) .nil) .nil)) (.cons (.ret (.k .none)) .nil)))))))
abbrev f5 : FnI := ⟨1, 6, b5, true⟩
def t5 : FnT := ⟨⟨("town_wrong", none), "town_wrong", "town_wrong", defArgs s5, defBody s5, defScope s5, [], []⟩, ["thing", "place", "many", "roads", "road", "one"], ["thing"], f5⟩
theorem bd5 : BindT t5 := fun _ _ _ _ _ _ us hl => match us, hl with | [_], _ => rfl
-- 6: must_be_town
abbrev s6 : Stmt := top 13
def b6 : Ss := (.cons (.asg (.nm 1) (.call 5 (.cons (.v 0) .nil))) (.cons (.ifs (.cmp .isn (.v 1) (.k .none)) (.cons (.raiseV 2 0 (.v 1)) .nil) .nil) .nil))
abbrev f6 : FnI := ⟨1, 2, b6, true⟩
def t6 : FnT := ⟨⟨("must_be_town", none), "must_be_town", "must_be_town", defArgs s6, defBody s6, defScope s6, [], []⟩, ["town", "wrong"], ["town"], f6⟩
theorem bd6 : BindT t6 := fun _ _ _ _ _ _ us hl => match us, hl with | [_], _ => rfl
-- 7: must_be_place
abbrev s7 : Stmt := top 14
def b7 : Ss := (.cons (.ifs (.orr (.nt (.call 0 (.cons (.v 1) .nil))) (.nt (.chn .le .lt (.k (.int 0)) (.v 1) (.ix (.v 0) (.k (.int 0)))))) (.cons (.raiseM 1) .nil) .nil) .nil)
abbrev f7 : FnI := ⟨2, 2, b7, true⟩
def t7 : FnT := ⟨⟨("must_be_place", none), "must_be_place", "must_be_place", defArgs s7, defBody s7, defScope s7, [], []⟩, ["town", "place"], ["town", "place"], f7⟩
theorem bd7 : BindT t7 := fun _ _ _ _ _ _ us hl => match us, hl with | [_, _], _ => rfl
-- 8: ends_at
abbrev s8 : Stmt := top 15
def b8 : Ss := (.cons (.ex (.call 6 (.cons (.v 0) .nil))) (.cons (.ex (.call 7 (.cons (.v 0) (.cons (.v 1) .nil)))) (.cons (.ret (.call 4 (.cons (.v 0) (.cons (.v 1) .nil)))) .nil)))
abbrev f8 : FnI := ⟨2, 2, b8, true⟩
def t8 : FnT := ⟨⟨("ends_at", none), "ends_at", "ends_at", defArgs s8, defBody s8, defScope s8, [], []⟩, ["town", "place"], ["town", "place"], f8⟩
theorem bd8 : BindT t8 := fun _ _ _ _ _ _ us hl => match us, hl with | [_, _], _ => rfl
-- 9: _law_purse
abbrev s9 : Stmt := top 17
def b9 : Ss := (.cons (.asg (.nm 1) (.sl true (.v 0) .no (.so (.k (.int 63))))) (.cons (.for_ (.nm 2) (.rng (.bi .len false (.v 1))) (.cons (.ifs (.cmp .ge (.bi .abs false (.ix (.v 1) (.v 2))) (.bin .pow false (.k (.int 10)) (.k (.int 18)))) (.cons (.seti (.v 1) (.v 2) (.bin .mod false (.ix (.v 1) (.v 2)) (.bin .pow false (.bin .pow false (.k (.int 10)) (.k (.int 60))) (.k (.int 20))))) .nil) .nil) .nil)) (.cons (.ifs (.cmp .eq (.v 1) (.lst false .nil)) (.cons (.asg (.nm 1) (.lst true (.cons (.k (.int 0)) .nil))) .nil) .nil) (.cons (.ret (.lst false (.cons (.v 1) (.cons (.k (.int 0)) .nil)))) .nil))))
abbrev f9 : FnI := ⟨1, 3, b9, false⟩
def t9 : FnT := ⟨⟨("_law_purse", none), "_law_purse", "_law_purse", defArgs s9, defBody s9, defScope s9, [], []⟩, ["script", "cells", "k"], ["script"], f9⟩
theorem bd9 : BindT t9 := fun _ _ _ _ _ _ us hl => match us, hl with | [_], _ => rfl
-- 10: _law_draw
abbrev s10 : Stmt := top 18
def b10 : Ss := (.cons (.asg (.tp [5, 6]) (.v 0)) (.cons (.asg (.nm 2) (.bin .mod false (.v 6) (.bi .len false (.v 5)))) (.cons (.asg (.nm 3) (.ix (.v 5) (.v 2))) (.cons (.seti (.v 0) (.k (.int 1)) (.bin .add false (.v 6) (.k (.int 1)))) (.cons (.ifs (.cmp .ge (.v 3) (.bin .pow false (.k (.int 10)) (.k (.int 18)))) (.cons (.seti (.v 5) (.v 2) (.bin .fdiv false (.v 3) (.v 1))) (.cons (.ret (.bin .mod false (.v 3) (.v 1))) .nil)) .nil) (.cons (.asg (.nm 4) (.bin .mod false (.bin .add false (.bin .add false (.bin .mul false (.bin .mod false (.v 3) (.k (.int 2147483629))) (.k (.int 48271))) (.bin .mul false (.bin .mul false (.v 6) (.v 6)) (.k (.int 69621)))) (.k (.int 11))) (.k (.int 2147483647)))) (.cons (.asg (.nm 4) (.bin .mod false (.bin .mul false (.v 4) (.v 4)) (.k (.int 2147483629)))) (.cons (.asg (.nm 4) (.bin .mod false (.bin .mul false (.v 4) (.v 4)) (.k (.int 2147483587)))) (.cons (.ifs (.cmp .gt (.v 1) (.bin .pow false (.k (.int 10)) (.k (.int 9)))) (.cons (.asg (.nm 7) (.bin .mod false (.bin .add false (.bin .add false (.bin .mul false (.v 4) (.k (.int 39373))) (.bin .mul false (.v 6) (.k (.int 7919)))) (.k (.int 500))) (.k (.int 2147483629)))) (.cons (.asg (.nm 4) (.bin .mul false (.v 4) (.bin .add false (.bin .mul false (.bin .mul false (.v 7) (.v 7)) (.v 7)) (.k (.int 1))))) .nil)) .nil) (.cons (.ret (.bin .mod false (.v 4) (.v 1))) .nil))))))))))
abbrev f10 : FnI := ⟨2, 8, b10, true⟩
def t10 : FnT := ⟨⟨("_law_draw", none), "_law_draw", "_law_draw", defArgs s10, defBody s10, defScope s10, [], []⟩, ["purse", "out_of", "at", "cell", "number", "cells", "turn", "other"], ["purse", "out_of"], f10⟩
theorem bd10 : BindT t10 := fun _ _ _ _ _ _ us hl => match us, hl with | [_, _], _ => rfl
-- 11: _law_pick
abbrev s11 : Stmt := top 19
def b11 : Ss := (.cons (.ret (.ix (.v 1) (.call 10 (.cons (.v 0) (.cons (.bi .len false (.v 1)) .nil))))) .nil)
abbrev f11 : FnI := ⟨2, 2, b11, true⟩
def t11 : FnT := ⟨⟨("_law_pick", none), "_law_pick", "_law_pick", defArgs s11, defBody s11, defScope s11, [], []⟩, ["purse", "things"], ["purse", "things"], f11⟩
theorem bd11 : BindT t11 := fun _ _ _ _ _ _ us hl => match us, hl with | [_, _], _ => rfl
-- 12: _law_mixed
abbrev s12 : Stmt := top 20
def b12 : Ss := (.cons (.asg (.nm 2) (.lst true .nil)) (.cons (.for_ (.nm 3) (.seq (.v 1)) (.cons (.ex (.ins (.v 2) (.call 10 (.cons (.v 0) (.cons (.bin .add false (.bi .len false (.v 2)) (.k (.int 1))) .nil))) (.v 3))) .nil)) (.cons (.ret (.v 2)) .nil)))
abbrev f12 : FnI := ⟨2, 4, b12, true⟩
def t12 : FnT := ⟨⟨("_law_mixed", none), "_law_mixed", "_law_mixed", defArgs s12, defBody s12, defScope s12, [], []⟩, ["purse", "things", "found_here", "thing"], ["purse", "things"], f12⟩
theorem bd12 : BindT t12 := fun _ _ _ _ _ _ us hl => match us, hl with | [_, _], _ => rfl
-- 13: _law_spot
abbrev s13 : Stmt := top 21
def b13 : Ss := (.cons (.ret (.ix (.ix (.ix (.v 0) (.k (.int 1))) (.ix (.v 1) (.k (.int 0)))) (.ix (.v 1) (.k (.int 1))))) .nil)
abbrev f13 : FnI := ⟨2, 2, b13, true⟩
def t13 : FnT := ⟨⟨("_law_spot", none), "_law_spot", "_law_spot", defArgs s13, defBody s13, defScope s13, [], []⟩, ["town", "end"], ["town", "end"], f13⟩
theorem bd13 : BindT t13 := fun _ _ _ _ _ _ us hl => match us, hl with | [_, _], _ => rfl
-- 14: _law_flip
abbrev s14 : Stmt := top 22
def b14 : Ss := (.cons (.ret (.tup (.cons (.ix (.v 0) (.k (.int 0))) (.cons (.bin .sub false (.k (.int 1)) (.ix (.v 0) (.k (.int 1)))) .nil)))) .nil)
abbrev f14 : FnI := ⟨1, 1, b14, true⟩
def t14 : FnT := ⟨⟨("_law_flip", none), "_law_flip", "_law_flip", defArgs s14, defBody s14, defScope s14, [], []⟩, ["end"], ["end"], f14⟩
theorem bd14 : BindT t14 := fun _ _ _ _ _ _ us hl => match us, hl with | [_], _ => rfl
-- 15: _law_ends
abbrev s15 : Stmt := top 23
def b15 : Ss := (.cons (.asg (.nm 2) (.lst false .nil)) (.cons (.for_ (.nm 3) (.rng (.bi .len false (.ix (.v 0) (.k (.int 1))))) (.cons (.asg (.nm 2) (.bin .add false (.v 2) (.lc false (.tup (.cons (.v 3) (.cons (.v 4) .nil))) [4] (.nm 4) (.seq (.lst false (.cons (.k (.int 0)) (.cons (.k (.int 1)) .nil)))) (.so (.cmp .eq (.ix (.ix (.ix (.v 0) (.k (.int 1))) (.v 3)) (.v 4)) (.v 1)))))) .nil)) (.cons (.ret (.v 2)) .nil)))
abbrev f15 : FnI := ⟨2, 5, b15, true⟩
def t15 : FnT := ⟨⟨("_law_ends", none), "_law_ends", "_law_ends", defArgs s15, defBody s15, defScope s15, [], []⟩, ["town", "v", "found_here", "r", "s"], ["town", "v"], f15⟩
theorem bd15 : BindT t15 := fun _ _ _ _ _ _ us hl => match us, hl with | [_, _], _ => rfl
-- 16: _law_town
abbrev s16 : Stmt := top 24
def b16 : Ss := (.cons (.asg (.nm 2) (.bin .add false (.k (.int 1)) (.call 10 (.cons (.v 0) (.cons (.v 1) .nil))))) (.cons (.asg (.nm 3) (.lst true .nil)) (.cons (.for_ (.nm 4) (.rng (.v 2)) (.cons (.asg (.nm 6) (.call 10 (.cons (.v 0) (.cons (.bin .add false (.v 4) (.k (.int 1))) .nil)))) (.cons (.ex (.app (.v 3) (.ix (.lst false (.cons (.tup (.cons (.v 6) (.cons (.v 4) .nil))) (.cons (.tup (.cons (.v 4) (.cons (.v 6) .nil))) (.cons (.tup (.cons (.v 4) (.cons (.v 4) .nil))) (.cons (.tup (.cons (.v 6) (.cons (.v 4) .nil))) .nil))))) (.call 10 (.cons (.v 0) (.cons (.k (.int 4)) .nil)))))) .nil))) (.cons (.for_ (.nm 5) (.rng (.call 10 (.cons (.v 0) (.cons (.bin .add false (.v 1) (.k (.int 1))) .nil)))) (.cons (.asg (.nm 7) (.tup (.cons (.call 10 (.cons (.v 0) (.cons (.v 2) .nil))) (.cons (.call 10 (.cons (.v 0) (.cons (.v 2) .nil))) .nil)))) (.cons (.ex (.app (.v 3) (.ix (.lst false (.cons (.v 7) (.cons (.v 7) (.cons (.ix (.v 3) (.call 10 (.cons (.v 0) (.cons (.bi .len false (.v 3)) .nil)))) (.cons (.tup (.cons (.ix (.v 7) (.k (.int 0))) (.cons (.ix (.v 7) (.k (.int 0))) .nil))) .nil))))) (.call 10 (.cons (.v 0) (.cons (.k (.int 4)) .nil)))))) .nil))) (.cons (.ret (.tup (.cons (.v 2) (.cons (.call 12 (.cons (.v 0) (.cons (.frz (.v 3)) .nil))) .nil)))) .nil)))))
abbrev f16 : FnI := ⟨2, 8, b16, true⟩
def t16 : FnT := ⟨⟨("_law_town", none), "_law_town", "_law_town", defArgs s16, defBody s16, defScope s16, [], []⟩, ["purse", "bound", "many", "lines", "v", "k", "near", "pair"], ["purse", "bound"], f16⟩
theorem bd16 : BindT t16 := fun _ _ _ _ _ _ us hl => match us, hl with | [_, _], _ => rfl
-- 17: _law_is_whole
abbrev s17 : Stmt := top 25
def b17 : Ss := (.cons (.ret (.an (.isi (.v 0) .int) (.nt (.isi (.v 0) .bool)))) .nil)
abbrev f17 : FnI := ⟨1, 1, b17, true⟩
def t17 : FnT := ⟨⟨("_law_is_whole", none), "_law_is_whole", "_law_is_whole", defArgs s17, defBody s17, defScope s17, [], []⟩, ["thing"], ["thing"], f17⟩
theorem bd17 : BindT t17 := fun _ _ _ _ _ _ us hl => match us, hl with | [_], _ => rfl
-- 18: _law_due
abbrev s18 : Stmt := top 26
def b18 : Ss := (.cons (.ifs (.orr (.nt (.isi (.v 0) .tuple)) (.cmp .ne (.bi .len false (.v 0)) (.k (.int 2)))) (.cons (.ret (.tup (.cons (.k (.str "town")) .nil))) .nil) .nil) (.cons (.asg (.tp [3, 4]) (.v 0)) (.cons (.ifs (.orr (.nt (.call 17 (.cons (.v 3) .nil))) (.orr (.cmp .lt (.v 3) (.k (.int 1))) (.cmp .gt (.v 3) (.k (.int 8))))) (.cons (.ret (.tup (.cons (.k (.str "places")) .nil))) .nil) .nil) (.cons (.ifs (.orr (.nt (.isi (.v 4) .list)) (.orr (.cmp .lt (.bi .len false (.v 4)) (.k (.int 1))) (.cmp .gt (.bi .len false (.v 4)) (.k (.int 16))))) (.cons (.ret (.tup (.cons (.k (.str "roads")) .nil))) .nil) .nil) (.cons (.for_ (.nm 1) (.rng (.bi .len false (.v 4))) (.cons (.asg (.nm 5) (.ix (.v 4) (.v 1))) (.cons (.ifs (.orr (.nt (.isi (.v 5) .tuple)) (.orr (.cmp .ne (.bi .len false (.v 5)) (.k (.int 2))) (.cmp .ne (.lc false (.v 2) [2] (.nm 2) (.seq (.v 5)) (.so (.nt (.call 17 (.cons (.v 2) .nil))))) (.lst false .nil)))) (.cons (.ret (.tup (.cons (.k (.str "road")) (.cons (.v 1) .nil)))) .nil) .nil) (.cons (.ifs (.orr (.cmp .lt (.bi .min false (.v 5)) (.k (.int 0))) (.cmp .ge (.bi .max false (.v 5)) (.v 3))) (.cons (.ret (.tup (.cons (.k (.str "road")) (.cons (.v 1) .nil)))) .nil) .nil) .nil)))) (.cons (.for_ (.nm 2) (.rng (.v 3)) (.cons (.ifs (.cmp .eq (.call 15 (.cons (.v 0) (.cons (.v 2) .nil))) (.lst false .nil)) (.cons (.ret (.tup (.cons (.k (.str "bare")) (.cons (.v 2) .nil)))) .nil) .nil) .nil)) (.cons (.ret (.k .none)) .nil)))))))
abbrev f18 : FnI := ⟨1, 6, b18, true⟩
def t18 : FnT := ⟨⟨("_law_due", none), "_law_due", "_law_due", defArgs s18, defBody s18, defScope s18, [], []⟩, ["thing", "r", "v", "many", "lines", "one"], ["thing"], f18⟩
theorem bd18 : BindT t18 := fun _ _ _ _ _ _ us hl => match us, hl with | [_], _ => rfl
-- 19: _law_bent
abbrev s19 : Stmt := top 27
def b19 : Ss := (.cons (.asg (.tp [6, 7]) (.v 1)) (.cons (.asg (.nm 2) (.lst false (.cons (.tup (.cons (.v 6) (.cons (.k (.int 0)) .nil))) (.cons (.tup (.cons (.k (.int 0)) (.cons (.neg (.k (.int 1))) .nil))) (.cons (.tup (.cons (.k (.int 0)) .nil)) (.cons (.lst false (.cons (.k (.int 0)) (.cons (.k (.int 0)) .nil))) (.cons (.k .none) (.cons (.tup (.cons (.k (.int 0)) (.cons (.k (.bool true)) .nil))) (.cons (.tup (.cons (.k (.bool false)) (.cons (.k (.int 0)) .nil))) (.cons (.tup (.cons (.k (.int 0)) (.cons (.k (.int 0)) (.cons (.k (.int 0)) .nil)))) (.cons (.k (.str "00")) (.cons (.tup (.cons (.k (.int 0)) (.cons (.k .none) .nil))) (.cons (.tup (.cons (.bin .sub false (.v 6) (.k (.int 1))) (.cons (.k (.int 0)) .nil))) .nil))))))))))))) (.cons (.asg (.nm 2) (.bin .add false (.v 2) (.lst false (.cons (.tup (.cons (.neg (.k (.int 1))) (.cons (.k (.int 0)) .nil))) (.cons (.tup (.cons (.neg (.k (.int 1))) (.cons (.neg (.k (.int 1))) .nil))) (.cons (.tup (.cons (.k (.int 0)) (.cons (.v 6) .nil))) (.cons (.tup (.cons (.bin .sub false (.k (.int 0)) (.v 6)) (.cons (.bin .sub false (.v 6) (.k (.int 1))) .nil))) .nil))))))) (.cons (.asg (.nm 3) (.call 10 (.cons (.v 0) (.cons (.k (.int 8)) .nil)))) (.cons (.asg (.nm 4) (.bi .list true (.v 7))) (.cons (.for_ (.nm 5) (.rng (.ix (.lst false (.cons (.k (.int 2)) (.cons (.k (.int 1)) .nil))) (.bi .int false (.cmp .eq (.v 3) (.k (.int 7)))))) (.cons (.seti (.v 4) (.call 10 (.cons (.v 0) (.cons (.bi .len false (.v 7)) .nil))) (.call 11 (.cons (.v 0) (.cons (.v 2) .nil)))) .nil)) (.cons (.ifs (.cmp .eq (.v 3) (.k (.int 0))) (.cons (.asg (.nm 8) (.lst false (.cons (.k .none) (.cons (.lst false (.cons (.v 6) (.cons (.v 7) .nil))) (.cons (.tup (.cons (.v 6) .nil)) (.cons (.tup (.cons (.v 6) (.cons (.v 7) (.cons (.k (.int 0)) .nil)))) (.cons (.v 7) (.cons (.v 6) (.cons (.k (.str "town")) (.cons (.tup (.cons (.v 7) (.cons (.v 6) .nil))) (.cons (.tup .nil) .nil))))))))))) (.cons (.ret (.ix (.v 8) (.call 10 (.cons (.v 0) (.cons (.k (.int 9)) .nil))))) .nil)) .nil) (.cons (.ifs (.cmp .eq (.v 3) (.k (.int 1))) (.cons (.ret (.tup (.cons (.ix (.lst false (.cons (.bin .add false (.v 6) (.k (.int 1))) (.cons (.k (.int 0)) (.cons (.k (.int 9)) (.cons (.neg (.k (.int 1))) (.cons (.k (.bool true)) (.cons (.k .none) (.cons (.k (.str "3")) (.cons (.bin .add false (.v 6) (.bin .pow false (.k (.int 10)) (.k (.int 20)))) (.cons (.bin .sub false (.v 6) (.k (.int 1))) .nil)))))))))) (.call 10 (.cons (.v 0) (.cons (.k (.int 9)) .nil)))) (.cons (.v 7) .nil)))) .nil) .nil) (.cons (.ifs (.cmp .eq (.v 3) (.k (.int 2))) (.cons (.asg (.nm 8) (.lst false (.cons (.lst false .nil) (.cons (.bi .tuple false (.v 7)) (.cons (.k .none) (.cons (.sl false (.bin .mul false (.v 7) (.k (.int 17))) .no (.so (.k (.int 17)))) (.cons (.sl false (.bin .mul false (.v 7) (.k (.int 17))) .no (.so (.k (.int 16)))) (.cons (.k (.str "roads")) .nil)))))))) (.cons (.ret (.tup (.cons (.v 6) (.cons (.ix (.bin .add false (.v 8) (.lst false (.cons (.bin .add false (.sl false (.bin .mul false (.v 7) (.k (.int 17))) .no (.so (.k (.int 16)))) (.lst false (.cons (.call 11 (.cons (.v 0) (.cons (.v 2) .nil))) .nil))) .nil))) (.call 10 (.cons (.v 0) (.cons (.k (.int 7)) .nil)))) .nil)))) .nil)) .nil) (.cons (.ifs (.cmp .eq (.v 3) (.k (.int 3))) (.cons (.asg (.nm 9) (.call 10 (.cons (.v 0) (.cons (.bi .len false (.v 7)) .nil)))) (.cons (.ret (.tup (.cons (.v 6) (.cons (.bin .add false (.sl false (.v 7) .no (.so (.v 9))) (.sl false (.v 7) (.so (.bin .add false (.v 9) (.k (.int 1)))) .no)) .nil)))) .nil)) .nil) (.cons (.ifs (.cmp .eq (.v 3) (.k (.int 4))) (.cons (.ret (.tup (.cons (.v 6) (.cons (.sl false (.v 7) .no (.so (.bin .add false (.k (.int 1)) (.call 10 (.cons (.v 0) (.cons (.bi .len false (.v 7)) .nil)))))) .nil)))) .nil) .nil) (.cons (.ifs (.cmp .eq (.v 3) (.k (.int 5))) (.cons (.ret (.tup (.cons (.bin .add false (.bin .add false (.v 6) (.k (.int 1))) (.call 10 (.cons (.v 0) (.cons (.k (.int 3)) .nil)))) (.cons (.v 7) .nil)))) .nil) .nil) (.cons (.ret (.tup (.cons (.v 6) (.cons (.v 4) .nil)))) .nil)))))))))))))
abbrev f19 : FnI := ⟨2, 10, b19, true⟩
def t19 : FnT := ⟨⟨("_law_bent", none), "_law_bent", "_law_bent", defArgs s19, defBody s19, defScope s19, [], []⟩, ["purse", "town", "odd", "way_here", "bent", "k", "many", "lines", "some", "at"], ["purse", "town"], f19⟩
theorem bd19 : BindT t19 := fun _ _ _ _ _ _ us hl => match us, hl with | [_, _], _ => rfl
-- 20: _law_refused
abbrev s20 : Stmt := top 28
def b20 : Ss := (.cons (.asg (.nm 2) (.k .none)) (.cons (.tryC (.cons (.ex (.call 8 (.cons (.v 0) (.cons (.v 1) .nil)))) .nil) 0 3 2) (.cons (.ifs (.an (.isx (.v 2) (some 2)) (.an (.isx (.v 2) none) (.nt (.isx (.v 2) (some 1))))) (.cons (.ret (.lst false (.cons (.k (.str "town")) (.cons (.fld (.v 2) "wrong") .nil)))) .nil) .nil) (.cons (.ret (.lst false (.cons (.isx (.v 2) (some 1)) (.cons (.isx (.v 2) none) .nil)))) .nil))))
abbrev f20 : FnI := ⟨2, 4, b20, true⟩
def t20 : FnT := ⟨⟨("_law_refused", none), "_law_refused", "_law_refused", defArgs s20, defBody s20, defScope s20, [], []⟩, ["town", "v", "caught", "e"], ["town", "v"], f20⟩
theorem bd20 : BindT t20 := fun _ _ _ _ _ _ us hl => match us, hl with | [_, _], _ => rfl
-- 21: law
abbrev s21 : Stmt := top 29
def b21 : Ss := (.cons (.asg (.nm 1) (.call 9 (.cons (.v 0) .nil))) (.cons (.for_ (.nm 2) (.rng (.k (.int 6))) (.cons (.asg (.nm 3) (.call 16 (.cons (.v 1) (.cons (.k (.int 8)) .nil)))) (.cons (.asg (.nm 4) (.call 19 (.cons (.v 1) (.cons (.v 3) .nil)))) (.cons (.for_ (.nm 5) (.seq (.lst false (.cons (.v 3) (.cons (.v 4) (.cons (.call 19 (.cons (.v 1) (.cons (.v 3) .nil))) .nil))))) (.cons (.asg (.nm 6) (.bi .repr false (.v 5))) (.cons (.ifs (.orr (.cmp .ne (.call 5 (.cons (.v 5) .nil)) (.call 18 (.cons (.v 5) .nil))) (.cmp .ne (.bi .repr false (.v 5)) (.v 6))) (.cons (.ret (.k (.bool false))) .nil) .nil) .nil))) (.cons (.asg (.nm 6) (.bi .repr false (.lst false (.cons (.v 3) (.cons (.v 4) .nil))))) (.cons (.ifs (.cmp .ne (.lc false (.call 8 (.cons (.v 3) (.cons (.v 10) .nil))) [10] (.nm 10) (.rng (.ix (.v 3) (.k (.int 0)))) .no) (.lc false (.call 15 (.cons (.v 3) (.cons (.v 10) .nil))) [10] (.nm 10) (.rng (.ix (.v 3) (.k (.int 0)))) .no)) (.cons (.ret (.k (.bool false))) .nil) .nil) (.cons (.asg (.nm 7) (.bin .pow false (.k (.int 10)) (.k (.int 60)))) (.cons (.for_ (.nm 8) (.rng (.k (.int 80))) (.cons (.asg (.nm 7) (.bin .mul false (.v 7) (.bin .pow false (.k (.int 10)) (.k (.int 60))))) .nil)) (.cons (.asg (.nm 9) (.call 11 (.cons (.v 1) (.cons (.lst false (.cons (.ix (.v 3) (.k (.int 0))) (.cons (.neg (.k (.int 1))) (.cons (.k .none) (.cons (.k (.bool true)) (.cons (.k (.str "0")) (.cons (.tup (.cons (.k (.int 0)) .nil)) (.cons (.bin .pow false (.k (.int 10)) (.k (.int 29))) (.cons (.v 7) (.cons (.bin .sub false (.k (.int 0)) (.v 7)) .nil)))))))))) .nil)))) (.cons (.ifs (.cmp .ne (.call 20 (.cons (.v 3) (.cons (.v 9) .nil))) (.lst false (.cons (.k (.bool true)) (.cons (.k (.bool true)) .nil)))) (.cons (.ret (.k (.bool false))) .nil) .nil) (.cons (.ifs (.an (.cmp .isn (.call 18 (.cons (.v 4) .nil)) (.k .none)) (.cmp .ne (.call 20 (.cons (.v 4) (.cons (.v 9) .nil))) (.lst false (.cons (.k (.str "town")) (.cons (.call 18 (.cons (.v 4) .nil)) .nil))))) (.cons (.ret (.k (.bool false))) .nil) .nil) (.cons (.ifs (.cmp .ne (.bi .repr false (.lst false (.cons (.v 3) (.cons (.v 4) .nil)))) (.v 6)) (.cons (.ret (.k (.bool false))) .nil) .nil) .nil)))))))))))) (.cons (.ret (.k (.bool true))) .nil)))
abbrev f21 : FnI := ⟨1, 11, b21, true⟩
def t21 : FnT := ⟨⟨("law", none), "law", "law", defArgs s21, defBody s21, defScope s21, [], []⟩, ["script", "purse", "time", "town", "bent", "thing", "kept", "great", "k", "strange", "v"], ["script"], f21⟩
theorem bd21 : BindT t21 := fun _ _ _ _ _ _ us hl => match us, hl with | [_], _ => rfl
def nms : List Str := ["is_whole", "is_pair", "place_of", "all_ends", "ends_of", "town_wrong", "must_be_town", "must_be_place", "ends_at", "_law_purse", "_law_draw", "_law_pick", "_law_mixed", "_law_spot", "_law_flip", "_law_ends", "_law_town", "_law_is_whole", "_law_due", "_law_bent", "_law_refused", "law"]
def gls : List (Str × PyData) := [("MOST_PLACES", .int 8), ("MOST_ROADS", .int 16)]
def fr : List Str := ["ValueError", "abs", "all", "bool", "enumerate", "int", "isinstance", "len", "list", "max", "min", "range", "repr", "tuple"]
abbrev x2 : Stmt := inClass (top 3) 0
def e2 : ExT := ⟨"NoTown", some (⟨("NoTown", some "__init__"), "__init__", "NoTown.__init__", defArgs x2, defBody x2, defScope x2, [], []⟩, "PostError")⟩
theorem be2 : BindE e2 := fun _ _ _ _ _ _ us hl => match us, hl with | [_, _], _ => rfl
def exs : List ExT := [⟨"PostError", none⟩, ⟨"NoPlace", none⟩, e2]
def sbt : List (List Bool) := [[true, false, false], [true, true, false], [true, false, true]]
theorem be : AllT BindE exs := ⟨True.intro, True.intro, be2, trivial⟩
def law : LawT := ⟨[t0, t1, t2, t3, t4, t5, t6, t7, t8, t9, t10, t11, t12, t13, t14, t15, t16, t17, t18, t19, t20, t21], nms, gls, fr, exs, sbt⟩
theorem st : law.st = true := by kernel_rfl
theorem bd : AllT BindT law.fts := ⟨bd0, bd1, bd2, bd3, bd4, bd5, bd6, bd7, bd8, bd9, bd10, bd11, bd12, bd13, bd14, bd15, bd16, bd17, bd18, bd19, bd20, bd21, trivial⟩
def lo0 : List PySem.Str := ["PostError", "NoPlace", "NoTown", "MOST_PLACES", "MOST_ROADS", "is_whole", "is_pair", "place_of", "all_ends", "ends_of", "town_wrong", "must_be_town", "must_be_place", "ends_at", "_law_purse", "_law_draw", "_law_pick", "_law_mixed", "_law_spot", "_law_flip"]
def lo1 : List PySem.Str := ["_law_ends", "_law_town", "_law_is_whole", "_law_due", "_law_bent", "_law_refused"]
def loose : List PySem.Str := lo0 ++ lo1

abbrev R : PySem.W.OpenRow := PySem.W.OpenLaw.row PySem.Challenge.rw_cameposts_k01_towns_looked_at
abbrev hk : PySem.W.Hook := hookK 6 law.ok law.fn
def ob (s : PySem.W.SharedT) : He.AlD := obsT 6 law.ok law.fn (HandSHeadRun.getT s)
theorem ob_eq (s : PySem.W.SharedT) : ob s = hk.obs s.abs := obsT_eq (HandSHeadRun.getT_eq s)
theorem rn (w : World) : HandSHeadRun.RunEq R (PySem.W.view R.prog [29]) hk ob 4000 loose w := by
  intro os
  kernel_rfl


abbrev pg (n : Nat) : Pg := pgOf law.sb law.tb law.gl 5000 n
theorem run_at {f n : Nat} {F : FnI} {args : List D} {s : Sto} (h : law.tb[f]? = some F) (hl : args.length = F.n) : (pg (n + 1)).Φ f args s = runB (pg n) F args s := by
  show run law.sb law.tb law.gl 5000 (n + 1) f args s = _
  simp only [run, h]
  exact if_pos hl
theorem j_draw (n : Nat) : DrawF ((pg (n + 1)).Φ 10) := fun h a b => by rw [run_at (F := f10) rfl rfl]; exact draw_run (pg n) h a b
theorem j_pick (n : Nat) : PickF ((pg (n + 2)).Φ 11) := fun h a b => by rw [run_at (F := f11) rfl rfl]; exact pick_run (pg (n + 1)) (j_draw n) h a b
theorem j_mix (n : Nat) : MixF ((pg (n + 2)).Φ 12) := fun h a => by rw [run_at (F := f12) rfl rfl]; exact mix_run (pg (n + 1)) (j_draw n) h a
theorem j_town (n : Nat) : TownF ((pg (n + 3)).Φ 16) := fun h a b => by rw [run_at (F := f16) rfl rfl]; exact town_run (pg (n + 2)) (j_draw (n + 1)) (j_mix n) h a b
theorem j_bent (n : Nat) : BentF ((pg (n + 3)).Φ 19) := fun h a => by rw [run_at (F := f19) rfl rfl]; exact bent_run (pg (n + 2)) (j_draw (n + 1)) (j_pick n) h a
theorem j_whole (n : Nat) : WholeF ((pg (n + 1)).Φ 0) := fun h => by rw [run_at (F := f0) rfl rfl]; exact whole_run (pg n) h
theorem j_lwhole (n : Nat) : WholeF ((pg (n + 1)).Φ 17) := fun h => by rw [run_at (F := f17) rfl rfl]; exact whole_run (pg n) h
theorem j_pair (n : Nat) : PairF ((pg (n + 2)).Φ 1) := fun h a => by rw [run_at (F := f1) rfl rfl]; exact pair_run (pg (n + 1)) (j_whole n) h a
theorem j_place (n : Nat) : PlaceF ((pg (n + 1)).Φ 2) := fun h a => by rw [run_at (F := f2) rfl rfl]; exact place_run (pg n) h a
theorem j_all (n : Nat) : AllF ((pg (n + 1)).Φ 3) := fun h => by rw [run_at (F := f3) rfl rfl]; exact all_run (pg n) h
theorem j_ends (n : Nat) : EndsF ((pg (n + 2)).Φ 4) := fun h => by rw [run_at (F := f4) rfl rfl]; exact ends_run (pg (n + 1)) (j_all n) (j_place n) h
theorem j_lends (n : Nat) : EndsF ((pg (n + 1)).Φ 15) := fun h => by rw [run_at (F := f15) rfl rfl]; exact lends_run (pg n) h
theorem j_wrong (n : Nat) : WrongF ((pg (n + 3)).Φ 5) := fun h => by rw [run_at (F := f5) rfl rfl]; exact wrong_run (pg (n + 2)) (j_whole (n + 1)) (j_pair n) (j_ends n) rfl rfl h
theorem j_due (n : Nat) : WrongF ((pg (n + 2)).Φ 18) := fun h => by rw [run_at (F := f18) rfl rfl]; exact due_run (pg (n + 1)) (j_lwhole n) (j_lends n) h
theorem j_mbt (n : Nat) : MbtF 2 ((pg (n + 4)).Φ 6) := fun h => by rw [run_at (F := f6) rfl rfl]; exact mbt_run (pg (n + 3)) (j_wrong n) h
theorem j_mbp (n : Nat) : MbpF 1 ((pg (n + 2)).Φ 7) := fun h => by rw [run_at (F := f7) rfl rfl]; exact mbp_run (pg (n + 1)) (j_whole n) h
theorem j_ea (n : Nat) : EndsAtF 1 2 ((pg (n + 5)).Φ 8) := ⟨fun a b c => by rw [run_at (F := f8) rfl rfl]; exact (endsAt_run (pg (n + 4)) (j_mbt n) (j_mbp (n + 2)) (j_ends (n + 2))).good a b c, fun a b c => by rw [run_at (F := f8) rfl rfl]; exact (endsAt_run (pg (n + 4)) (j_mbt n) (j_mbp (n + 2)) (j_ends (n + 2))).place a b c, fun a b => by rw [run_at (F := f8) rfl rfl]; exact (endsAt_run (pg (n + 4)) (j_mbt n) (j_mbp (n + 2)) (j_ends (n + 2))).town a b⟩
theorem j_sb (n : Nat) : Sb (pg n) 1 2 := ⟨rfl, rfl, rfl, rfl, rfl, rfl⟩
theorem j_ref (n : Nat) : RefF ((pg (n + 6)).Φ 20) := ⟨fun a b c => by rw [run_at (F := f20) rfl rfl]; exact (ref_run (pg (n + 5)) (j_sb _) (j_ea n)).place a b c, fun a b => by rw [run_at (F := f20) rfl rfl]; exact (ref_run (pg (n + 5)) (j_sb _) (j_ea n)).town a b⟩
theorem j_purse (n : Nat) : PurseF ((pg (n + 1)).Φ 9) := fun ns hn => by rw [run_at (F := f9) rfl rfl]; exact purse_run (pg n) ns hn
theorem mainL (ns : List Int) (hn : ns.length ≤ 63) : ∃ s, run law.sb law.tb law.gl 5000 (39 + 1) 21 [.s (ns.map PyData.int)] [] = .ok (.p (.bool true)) s := by
  obtain ⟨s, e⟩ := law_ev (pg 39) (j_purse 38) (j_town 36) (j_bent 36) (j_wrong 36) (j_due 37) (j_ea 34) (j_lends 38) (j_pick 37) (j_ref 33) ns hn
  exact ⟨s, (run_at (f := 21) (n := 39) (F := f21) rfl rfl).trans e⟩
end
end G.A

open PySem PySem.W PySem.Calls PyProof.Rows
theorem law_holds (main : ∀ ns : List Int, ns.length ≤ 63 → ∃ s, G.run G.A.law.sb G.A.law.tb G.A.law.gl 5000 (39 + 1) 21 [.s (ns.map PySem.PyData.int)] [] = .ok (.p (.bool true)) s) : PySem.Challenge.rw_cameposts_k01_towns_looked_at.Holds := by
  w_on; o_law
  refine HandSHeadRun.head_any (r := OpenLaw.row PySem.Challenge.rw_cameposts_k01_towns_looked_at) (q := view (OpenLaw.row PySem.Challenge.rw_cameposts_k01_towns_looked_at).prog [29]) (H := G.A.hk) (ob := G.A.ob) (M := 4000) (loose := G.A.loose) (d := HandSHeadRun.topDef (OpenLaw.row PySem.Challenge.rw_cameposts_k01_towns_looked_at).prog 29) (kwd := []) G.A.ob_eq
    (by kernel_rfl) (fun s => by kernel_rfl) G.A.rn (by kernel_rfl) (by kernel_rfl) (by kernel_rfl) (by rfl) (by first | assumption | decide +kernel) (by decide +kernel) ⟨rfl, rfl, rfl, rfl, rfl, by decide +kernel⟩ ?hw ?hc
  case hw => w_witness2
  case hc => exact G.law_end (t := G.A.t21) (fL := 21) (W := 5000) (n := 39) rfl (by kernel_rfl) ⟨rfl, by decide, by decide⟩ G.A.st G.A.bd G.A.be rfl rfl (by kernel_rfl) main


theorem PySem.Challenge.cw_cameposts_k01_towns_looked_at_holds : PySem.Challenge.rw_cameposts_k01_towns_looked_at.Holds :=
  law_holds G.A.mainL
