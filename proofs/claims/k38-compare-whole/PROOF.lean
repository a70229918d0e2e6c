import PyProof.Rows.All
import Wide.All
import OpenK.AllK
import Wide.FinOn
import PySem.Challenge.RW_stampsheets_k38_compare_whole
import HandS.ForMost
import HandS.Evl
import HandS.IsInst
import HandS.Property
import HandS.Conv
import HandS.Zip
import HandS.Deep
import HandS.More
import HandS.TupLe
import HandS.Style
import HandS.StrMore
import HandS.Walk
import KE.GoesNew
import HandS.SetFor
import HandS.Strs
import HandS.TupAny
import HandS.Defaults
import OpenK.KOps
import OpenK.KMeth
import HandS.NoneIn
import HandS.Iter
import HandS.HeadHook1
import HandS.HeadHook2
import HandS.Exc
import HandS.ExcField
import HandS.Head2
import HandS.HeadEnd
import KE.KExcIs
import HandS.ExcOwn
import HandS.WordsExc
import HandS.ExcInit
set_option Elab.async false
set_option linter.all false
set_option maxRecDepth 100000
set_option maxHeartbeats 0
/-! The data layer: values as data D, states as slots, one rule a construct. -/
namespace Q8
open PySem L2
abbrev Ex := Evl.Ex
theorem Ex.refl (H : Hp) : Ex H H := Evl.Ex.refl H
theorem Ex.trans {H H1 H2 : Hp} (a : Ex H H1) (b : Ex H1 H2) : Ex H H2 := Evl.Ex.trans a b
theorem Ex.new {H : Hp} {p : Addr} {o : HO} (h : H p = none) : Ex H (upd H p o) := Evl.Ex.new h
/-- data -/
inductive D where
  | n | b (x : Bool) | i (x : Int) | s (x : List Nat) | y (x : String) | r (a : Addr)
  | q (ns : List Int) | l (xs : List D) | t (xs : List D) | k (kvs : List (List Nat × D)) | o (c : Nat) (xs : List D)
/-- the fields of the classes, in the order of their making -/
def flds : Nat → List Str
  | 0 => ["seen", "order", "left"]
  | 1 => ["size", "stamps", "layers", "numbers"]
  | 2 => ["made", "row", "cells"]
  | _ => ["word", "rows", "other_rows", "missing", "other_missing", "sheet"]
/-- what data lean on: the written part, the classes' addresses -/
structure En where
  K : PySem.W.Frag
  cl : Nat → Addr
mutual
def Den (E : En) (H : Hp) : D → V → Prop
  | .n, v => v = .non
  | .b x, v => v = .bl x
  | .i x, v => v = .int x
  | .s x, v => v = .str ⟨x.toArray⟩
  | .y x, v => v = .ty x
  | .r a, v => v = .ref a
  | .q ns, v => ∃ p, v = .ref p ∧ SqL E.K H p (ns.map V.int)
  | .l ds, v => ∃ p vs, v = .ref p ∧ H p = some (.lst vs) ∧ DenL E H ds vs
  | .t ds, v => ∃ p vs, v = .ref p ∧ SqT E.K H p vs ∧ DenL E H ds vs
  | .k kvs, v => ∃ p ws, v = .ref p ∧ Rd H p (.dK ws) ∧ DenK E H kvs ws
  | .o c ds, v => ∃ p dx vs, v = .ref p ∧ H p = some (.ins (E.cl c) dx ((flds c).zip vs)) ∧ vs.length = (flds c).length ∧ DenL E H ds vs
def DenL (E : En) (H : Hp) : List D → List V → Prop
  | [], vs => vs = []
  | d :: ds, vs => ∃ v r, vs = v :: r ∧ Den E H d v ∧ DenL E H ds r
def DenK (E : En) (H : Hp) : List (List Nat × D) → List (Key × V) → Prop
  | [], ws => ws = []
  | (x, d) :: r, ws => ∃ v q, ws = (.inr ⟨x.toArray⟩, v) :: q ∧ Den E H d v ∧ DenK E H r q
end
section
variable {E : En} {H H' : Hp}
theorem ex_l {K : PySem.W.Frag} {a : Addr} {xs : List V} (e : Ex H H') (h : SqL K H a xs) : SqL K H' a xs := Evl.ex_l e h
theorem ex_t {K : PySem.W.Frag} {a : Addr} {xs : List V} (e : Ex H H') (h : SqT K H a xs) : SqT K H' a xs := Evl.ex_t e h
theorem rd_ex {a : Addr} {u : HO} (e : Ex H H') (h : Rd H a u) : Rd H' a u := h.elim (fun h => .inl (e _ _ h)) fun ⟨o, h⟩ => .inr ⟨o, e _ _ h⟩
mutual
theorem Den.mono (e : Ex H H') : ∀ (d : D) (v : V), Den E H d v → Den E H' d v
  | .n, v, h => by simp only [Den] at h ⊢; exact h
  | .b x, v, h => by simp only [Den] at h ⊢; exact h
  | .i x, v, h => by simp only [Den] at h ⊢; exact h
  | .s x, v, h => by simp only [Den] at h ⊢; exact h
  | .y x, v, h => by simp only [Den] at h ⊢; exact h
  | .r x, v, h => by simp only [Den] at h ⊢; exact h
  | .q ds, v, h => by
    simp only [Den] at h ⊢
    obtain ⟨p, h1, h2⟩ := h
    exact ⟨p, h1, ex_l e h2⟩
  | .l ds, v, h => by
    simp only [Den] at h ⊢
    obtain ⟨p, vs, h1, h2, h3⟩ := h
    exact ⟨p, vs, h1, e _ _ h2, DenL.mono e ds vs h3⟩
  | .t ds, v, h => by
    simp only [Den] at h ⊢
    obtain ⟨p, vs, h1, h2, h3⟩ := h
    exact ⟨p, vs, h1, ex_t e h2, DenL.mono e ds vs h3⟩
  | .k kvs, v, h => by
    simp only [Den] at h ⊢
    obtain ⟨p, vs, h1, h2, h3⟩ := h
    exact ⟨p, vs, h1, rd_ex e h2, DenK.mono e kvs vs h3⟩
  | .o c ds, v, h => by
    simp only [Den] at h ⊢
    obtain ⟨p, dx, vs, h1, h2, h3, h4⟩ := h
    exact ⟨p, dx, vs, h1, e _ _ h2, h3, DenL.mono e ds vs h4⟩
theorem DenL.mono (e : Ex H H') : ∀ (ds : List D) (vs : List V), DenL E H ds vs → DenL E H' ds vs
  | [], vs, h => by simp only [DenL] at h ⊢; exact h
  | d :: ds, vs, h => by
    simp only [DenL] at h ⊢
    obtain ⟨v, r, h1, h2, h3⟩ := h
    exact ⟨v, r, h1, Den.mono e d v h2, DenL.mono e ds r h3⟩
theorem DenK.mono (e : Ex H H') : ∀ (ds : List (List Nat × D)) (vs : List (Key × V)), DenK E H ds vs → DenK E H' ds vs
  | [], vs, h => by simp only [DenK] at h ⊢; exact h
  | (x, d) :: ds, vs, h => by
    simp only [DenK] at h ⊢
    obtain ⟨v, r, h1, h2, h3⟩ := h
    exact ⟨v, r, h1, Den.mono e d v h2, DenK.mono e ds r h3⟩
end
theorem DenL.nil : DenL E H [] [] := by simp only [DenL]
theorem Den.cons {d : D} {ds : List D} {v : V} {vs : List V} (h : Den E H d v) (t : DenL E H ds vs) : DenL E H (d :: ds) (v :: vs) := by
  simp only [DenL]; exact ⟨v, vs, rfl, h, t⟩
theorem DenL.cons_iff {d : D} {ds : List D} {v : V} {vs : List V} : DenL E H (d :: ds) (v :: vs) ↔ Den E H d v ∧ DenL E H ds vs := by
  constructor
  · intro h
    simp only [DenL] at h
    obtain ⟨w, r, h1, h2, h3⟩ := h
    injection h1 with e1 e2
    subst e1 e2
    exact ⟨h2, h3⟩
  · rintro ⟨h1, h2⟩
    exact h1.cons h2
theorem DenL.len : ∀ {ds : List D} {vs : List V}, DenL E H ds vs → vs.length = ds.length
  | [], vs, h => by simp only [DenL] at h; subst h; rfl
  | d :: ds, vs, h => by
    simp only [DenL] at h
    obtain ⟨v, r, rfl, _, h3⟩ := h
    rw [List.length_cons, List.length_cons, DenL.len h3]
theorem DenL.get : ∀ {ds : List D} {vs : List V} {i : Nat} {d : D}, DenL E H ds vs → ds[i]? = some d → ∃ v, vs[i]? = some v ∧ Den E H d v
  | [], vs, i, d, h, e => by simp at e
  | d0 :: ds, vs, i, d, h, e => by
    simp only [DenL] at h
    obtain ⟨v, r, rfl, h2, h3⟩ := h
    cases i with
    | zero =>
      have : d0 = d := by simpa using e
      subst this
      exact ⟨v, rfl, h2⟩
    | succ i =>
      obtain ⟨w, h4, h5⟩ := DenL.get (i := i) h3 (by simpa using e)
      exact ⟨w, by simpa using h4, h5⟩
theorem DenL.getV {ds : List D} {vs : List V} {i : Nat} {v : V} (h : DenL E H ds vs) (e : vs[i]? = some v) : ∃ d, ds[i]? = some d ∧ Den E H d v := by
  have hl := h.len
  have hi : i < ds.length := by rw [← hl]; exact (List.getElem?_eq_some_iff.mp e).1
  obtain ⟨w, h1, h2⟩ := h.get (List.getElem?_eq_getElem hi)
  rw [e] at h1
  cases h1
  exact ⟨_, List.getElem?_eq_getElem hi, h2⟩
theorem DenL.append : ∀ {ds es : List D} {vs ws : List V}, DenL E H ds vs → DenL E H es ws → DenL E H (ds ++ es) (vs ++ ws)
  | [], es, vs, ws, h, h' => by simp only [DenL] at h; subst h; exact h'
  | d :: ds, es, vs, ws, h, h' => by
    simp only [DenL] at h
    obtain ⟨v, r, rfl, h2, h3⟩ := h
    exact h2.cons (DenL.append h3 h')
theorem DenL.take : ∀ {ds : List D} {vs : List V} (n : Nat), DenL E H ds vs → DenL E H (ds.take n) (vs.take n)
  | [], vs, n, h => by simp only [DenL] at h; subst h; simp [DenL.nil]
  | d :: ds, vs, 0, h => by simp [DenL.nil]
  | d :: ds, vs, n + 1, h => by
    simp only [DenL] at h
    obtain ⟨v, r, rfl, h2, h3⟩ := h
    exact h2.cons (DenL.take n h3)
theorem DenL.drop : ∀ {ds : List D} {vs : List V} (n : Nat), DenL E H ds vs → DenL E H (ds.drop n) (vs.drop n)
  | [], vs, n, h => by simp only [DenL] at h; subst h; simp [DenL.nil]
  | d :: ds, vs, 0, h => h
  | d :: ds, vs, n + 1, h => by
    simp only [DenL] at h
    obtain ⟨v, r, rfl, h2, h3⟩ := h
    exact DenL.drop n h3
theorem DenL.set : ∀ {ds : List D} {vs : List V} (n : Nat) {d : D} {v : V}, DenL E H ds vs → Den E H d v → DenL E H (ds.set n d) (vs.set n v)
  | [], vs, n, d, v, h, h' => by simp only [DenL] at h; subst h; simp [DenL.nil]
  | e :: ds, vs, 0, d, v, h, h' => by
    simp only [DenL] at h
    obtain ⟨u, r, rfl, h2, h3⟩ := h
    exact h'.cons h3
  | e :: ds, vs, n + 1, d, v, h, h' => by
    simp only [DenL] at h
    obtain ⟨u, r, rfl, h2, h3⟩ := h
    exact h2.cons (DenL.set n h3 h')
theorem DenL.rev : ∀ {ds : List D} {vs : List V}, DenL E H ds vs → DenL E H ds.reverse vs.reverse
  | [], vs, h => by simp only [DenL] at h; subst h; exact DenL.nil
  | d :: ds, vs, h => by
    simp only [DenL] at h
    obtain ⟨v, r, rfl, h2, h3⟩ := h
    rw [List.reverse_cons, List.reverse_cons]
    exact (DenL.rev h3).append (h2.cons DenL.nil)
/-- lists of ints, texts -/
theorem denL_i {ns : List Int} : ∀ {vs : List V}, DenL E H (ns.map .i) vs ↔ vs = ns.map V.int := by
  induction ns with
  | nil => intro vs; simp only [List.map_nil, DenL]
  | cons n ns ih =>
    intro vs
    simp only [List.map_cons, DenL, Den, ih]
    constructor
    · rintro ⟨v, r, rfl, rfl, rfl⟩; rfl
    · rintro rfl; exact ⟨_, _, rfl, rfl, rfl⟩
theorem denL_s {ns : List (List Nat)} : ∀ {vs : List V}, DenL E H (ns.map .s) vs ↔ vs = ns.map fun x => V.str ⟨x.toArray⟩ := by
  induction ns with
  | nil => intro vs; simp only [List.map_nil, DenL]
  | cons n ns ih =>
    intro vs
    simp only [List.map_cons, DenL, Den, ih]
    constructor
    · rintro ⟨v, r, rfl, rfl, rfl⟩; rfl
    · rintro rfl; exact ⟨_, _, rfl, rfl, rfl⟩
end
/-! ### hidden addresses -/
def hid (P : List (Option Addr)) (H : Hp) : Hp := fun a => if some a ∈ P then none else H a
section
variable {P P' : List (Option Addr)} {H H' : Hp} {a : Addr} {o : HO}
theorem hid_some : hid P H a = some o ↔ some a ∉ P ∧ H a = some o := by
  unfold hid
  by_cases h : some a ∈ P
  · rw [if_pos h]; simp [h]
  · rw [if_neg h]; simp [h]
theorem hid_sub : Ex (hid P H) H := fun a o h => (hid_some.mp h).2
theorem hid_mono (e : Ex H H') : Ex (hid P H) (hid P H') := fun a o h => by
  obtain ⟨h1, h2⟩ := hid_some.mp h
  exact hid_some.mpr ⟨h1, e a o h2⟩
theorem hid_less (h : ∀ a, some a ∈ P' → some a ∈ P) : Ex (hid P H) (hid P' H) := fun a o h' => by
  obtain ⟨h1, h2⟩ := hid_some.mp h'
  exact hid_some.mpr ⟨fun z => h1 (h a z), h2⟩
theorem hid_upd (h : some a ∈ P) : hid P (upd H a o) = hid P H := by
  funext c
  unfold hid
  by_cases hc : some c ∈ P
  · rw [if_pos hc, if_pos hc]
  · rw [if_neg hc, if_neg hc, upd_ne]
    rintro rfl
    exact hc h
theorem hid_nil : hid [] H = H := by
  funext c
  unfold hid
  rw [if_neg (by simp)]
/-- what a def's caller may lean on: all that is not hidden, and the caller's own hidden things -/
def vis (L P : List (Option Addr)) (H : Hp) : Hp := fun a => if some a ∈ L then H a else hid P H a
theorem vis_some {L : List (Option Addr)} : vis L P H a = some o ↔ (some a ∈ L ∨ some a ∉ P) ∧ H a = some o := by
  unfold vis
  by_cases h : some a ∈ L
  · rw [if_pos h]; simp [h]
  · rw [if_neg h, hid_some]; simp [h]
theorem vis_sub {L : List (Option Addr)} : Ex (vis L P H) H := fun a o h => (vis_some.mp h).2
theorem hid_vis {L : List (Option Addr)} : Ex (hid P H) (vis L P H) := fun a o h => vis_some.mpr ⟨.inr (hid_some.mp h).1, (hid_some.mp h).2⟩
theorem vis_of {L : List (Option Addr)} (e : Ex H H') (h : Ex (hid P H) (hid P' H')) : Ex (vis L P H) (vis L P' H') := fun a o z => by
  obtain ⟨z1 | z1, z2⟩ := vis_some.mp z
  · exact vis_some.mpr ⟨.inl z1, e _ _ z2⟩
  · have := hid_some.mp (h a o (hid_some.mpr ⟨z1, z2⟩))
    exact vis_some.mpr ⟨.inr this.1, this.2⟩
theorem vis_mono {L : List (Option Addr)} (e : Ex H H') : Ex (vis L P H) (vis L P H') := vis_of e (hid_mono e)
/-- back to what is hidden now -/
theorem vis_hid {L : List (Option Addr)} (hl : ∀ a, some a ∈ L → some a ∈ P) (e : Ex (vis L P H) (vis L P' H')) : Ex (hid P H) (hid P' H') := fun a o h => by
  obtain ⟨h1, h2⟩ := hid_some.mp h
  have := e a o (vis_some.mpr ⟨.inr h1, h2⟩)
  obtain ⟨z1 | z1, z2⟩ := vis_some.mp this
  · exact absurd (hl a z1) h1
  · exact hid_some.mpr ⟨z1, z2⟩
theorem mem_set {i : Nat} {x y : Option Addr} (h : y ∈ P.set i x) : y ∈ P ∨ y = x := by
  rcases List.mem_or_eq_of_mem_set h with h | h
  · exact .inl h
  · exact .inr h
end
/-! ### slots -/
inductive Sl where
  | no | v (d : D) | ol (ds : List D) | ok (kvs : List (List Nat × D)) | oi (p dx : Addr) (c : Nat) (ds : List D)
def SlOk (E : En) (P : List (Option Addr)) (H : Hp) (i : Nat) (x : Option (Option V)) : Sl → Prop
  | .no => ∀ p, P[i]? ≠ some (some p)
  | .v d => ∃ v, x = some (some v) ∧ Den E (hid P H) d v ∧ ∀ p, P[i]? ≠ some (some p)
  | .ol ds => ∃ p vs, x = some (some (.ref p)) ∧ P[i]? = some (some p) ∧ H p = some (.lst vs) ∧ DenL E (hid P H) ds vs
  | .ok kvs => ∃ p ws, x = some (some (.ref p)) ∧ P[i]? = some (some p) ∧ H p = some (.dK ws) ∧ DenK E (hid P H) kvs ws
  | .oi p dx c ds => ∃ vs, x = some (some (.ref p)) ∧ P[i]? = some (some p) ∧ H p = some (.ins (E.cl c) dx ((flds c).zip vs)) ∧ vs.length ≤ (flds c).length ∧ DenL E (hid P H) ds vs
structure At (E : En) (L : List (Option Addr)) (H0 : Hp) (P : List (Option Addr)) (env : List Sl) (σ : St) (H : Hp) : Prop where
  ex : Ex H0 (vis L P H)
  ls : env.length = σ.length
  lp : env.length ≤ P.length
  xt : P.drop env.length = L
  nd : ∀ (i j : Nat) (p : Addr), P[i]? = some (some p) → P[j]? = some (some p) → i = j
  tr : ∀ p, some p ∈ P → ∃ o, H p = some o
  sl : ∀ i s, env[i]? = some s → SlOk E P H i σ[i]? s
section
variable {E : En} {H0 H H' : Hp} {L P : List (Option Addr)} {env : List Sl} {σ : St} {i : Nat} {d : D} {x : V} {p : Addr} {o : HO}
theorem SlOk.grow {s : Sl} {v : Option (Option V)} (e : Ex H H') (h : SlOk E P H i v s) : SlOk E P H' i v s := by
  cases s with
  | no => exact h
  | v d => obtain ⟨x, h1, h2, h3⟩ := h; exact ⟨x, h1, h2.mono (hid_mono e), h3⟩
  | ol ds => obtain ⟨p, vs, h1, h2, h3, h4⟩ := h; exact ⟨p, vs, h1, h2, e _ _ h3, h4.mono (hid_mono e)⟩
  | ok ds => obtain ⟨p, vs, h1, h2, h3, h4⟩ := h; exact ⟨p, vs, h1, h2, e _ _ h3, h4.mono (hid_mono e)⟩
  | oi p dx c ds => obtain ⟨vs, h1, h2, h3, h5, h4⟩ := h; exact ⟨vs, h1, h2, e _ _ h3, h5, h4.mono (hid_mono e)⟩
theorem At.grow (a : At E L H0 P env σ H) (e : Ex H H') : At E L H0 P env σ H' :=
  ⟨a.ex.trans (vis_mono e), a.ls, a.lp, a.xt, a.nd, fun p h => let ⟨o, h'⟩ := a.tr p h; ⟨o, e _ _ h'⟩, fun i s h => (a.sl i s h).grow e⟩
/-- another base -/
theorem At.base {H1 : Hp} (a : At E L H0 P env σ H) (e : Ex H1 H0) : At E L H1 P env σ H := ⟨e.trans a.ex, a.ls, a.lp, a.xt, a.nd, a.tr, a.sl⟩
theorem At.self (a : At E L H0 P env σ H) : At E L (vis L P H) P env σ H := ⟨Ex.refl _, a.ls, a.lp, a.xt, a.nd, a.tr, a.sl⟩
theorem At.lm (a : At E L H0 P env σ H) : ∀ q, some q ∈ L → some q ∈ P := fun q h => by
  rw [← a.xt] at h
  exact List.mem_of_mem_drop h
/-- a slot's own thing is not the caller's -/
theorem At.nl (a : At E L H0 P env σ H) (hP : P[i]? = some (some p)) (hi : i < env.length) : some p ∉ L := fun h => by
  rw [← a.xt] at h
  obtain ⟨j, hj⟩ := List.mem_iff_getElem?.mp h
  rw [List.getElem?_drop] at hj
  have := a.nd _ _ _ hP hj
  omega
/-- un-hiding keeps what stands in the other slots -/
theorem SlOk.unhide {s : Sl} {v : Option (Option V)} {j : Nat} (hij : i ≠ j) (h : SlOk E P H i v s) : SlOk E (P.set j none) H i v s := by
  have e : Ex (hid P H) (hid (P.set j none) H) := hid_less fun a h => by
    rcases mem_set h with h | h
    · exact h
    · cases h
  have q : (P.set j none)[i]? = P[i]? := List.getElem?_set_ne (Ne.symm hij)
  cases s with
  | no => exact fun p z => h p (q.symm.trans z)
  | v d => obtain ⟨x, h1, h2, h3⟩ := h; exact ⟨x, h1, h2.mono e, fun p z => h3 p (q.symm.trans z)⟩
  | ol ds => obtain ⟨p, vs, h1, h2, h3, h4⟩ := h; exact ⟨p, vs, h1, q.trans h2, h3, h4.mono e⟩
  | ok ds => obtain ⟨p, vs, h1, h2, h3, h4⟩ := h; exact ⟨p, vs, h1, q.trans h2, h3, h4.mono e⟩
  | oi p dx c ds => obtain ⟨vs, h1, h2, h3, h5, h4⟩ := h; exact ⟨vs, h1, q.trans h2, h3, h5, h4.mono e⟩
theorem hid_none : Ex (hid P H) (hid (P.set i none) H) := hid_less fun a h => by
  rcases mem_set h with h | h
  · exact h
  · cases h
theorem set_none {i : Nat} : ∀ p : Addr, (P.set i none)[i]? ≠ some (some p) := fun p z => by
  rw [List.getElem?_set] at z
  simp only [if_true] at z
  split at z <;> simp at z
theorem nd_set {j : Nat} (nd : ∀ (i j : Nat) (p : Addr), P[i]? = some (some p) → P[j]? = some (some p) → i = j) : ∀ (i k : Nat) (p : Addr), (P.set j none)[i]? = some (some p) → (P.set j none)[k]? = some (some p) → i = k := by
  intro i k p h1 h2
  by_cases e1 : j = i
  · subst e1
    rw [List.getElem?_set] at h1
    split at h1 <;> simp_all
  · by_cases e2 : j = k
    · subst e2
      rw [List.getElem?_set] at h2
      split at h2 <;> simp_all
    · rw [List.getElem?_set_ne e1] at h1
      rw [List.getElem?_set_ne e2] at h2
      exact nd i k p h1 h2
/-- a slot's place among the hidden -/
def setP (n : Nat) (P : List (Option Addr)) (i : Nat) (x : Option Addr) : List (Option Addr) := if i < n then P.set i x else P
theorem setP_in {n : Nat} {x : Option Addr} (h : i < n) : setP n P i x = P.set i x := if_pos h
theorem setP_out {n : Nat} {x : Option Addr} (h : ¬ i < n) : setP n P i x = P := if_neg h
theorem setP_len {n : Nat} {x : Option Addr} : (setP n P i x).length = P.length := by
  unfold setP; split <;> simp
theorem setP_drop {n : Nat} {x : Option Addr} : (setP n P i x).drop n = P.drop n := by
  unfold setP
  split
  · rename_i h
    apply List.ext_getElem?
    intro j
    rw [List.getElem?_drop, List.getElem?_drop, List.getElem?_set_ne (by omega)]
  · rfl
theorem setP_less {n : Nat} : Ex (hid P H) (hid (setP n P i none) H) := by
  unfold setP
  split
  · exact hid_none
  · exact Ex.refl _
theorem set_id {α : Type} {l : List α} {x : α} (h : ¬ i < l.length) : l.set i x = l := by
  apply List.ext_getElem?
  intro j
  rw [List.getElem?_set]
  split
  · rename_i e
    subst e
    exact (List.getElem?_eq_none (by omega)).symm
  · rfl
/-- the slot takes a value -/
theorem At.setv (a : At E L H0 P env σ H) (h : Den E (hid P H) d x) : At E L H0 (setP env.length P i none) (env.set i (.v d)) (σ.set i (some x)) H := by
  by_cases hi : i < env.length
  · rw [setP_in hi]
    refine ⟨a.ex.trans (vis_of (Ex.refl _) hid_none), by simp [a.ls], by simpa using a.lp, by rw [← setP_in hi, List.length_set, setP_drop]; exact a.xt, nd_set a.nd, fun p h => ?_, fun j s hs => ?_⟩
    · rcases mem_set h with h | h
      · exact a.tr p h
      · cases h
    · by_cases e : i = j
      · subst e
        rw [List.getElem?_set_self hi] at hs
        cases hs
        exact ⟨x, by rw [List.getElem?_set_self (by rw [← a.ls]; exact hi)], h.mono hid_none, set_none⟩
      · rw [List.getElem?_set_ne e] at hs
        rw [List.getElem?_set_ne e]
        exact (a.sl j s hs).unhide (Ne.symm e)
  · rw [setP_out hi, set_id hi, set_id (by rw [← a.ls]; exact hi)]
    exact a
/-- a weaker state: slots forgotten, owned things shared -/
inductive Wk : List Sl → List Sl → Prop
  | nil : Wk [] []
  | same {s : Sl} {a b : List Sl} : Wk a b → Wk (s :: a) (s :: b)
  | drop {s : Sl} {a b : List Sl} : Wk a b → Wk (s :: a) (.no :: b)
  | shl {ds : List D} {a b : List Sl} : Wk a b → Wk (.ol ds :: a) (.v (.l ds) :: b)
  | shk {kvs : List (List Nat × D)} {a b : List Sl} : Wk a b → Wk (.ok kvs :: a) (.v (.k kvs) :: b)
theorem Wk.refl : ∀ a : List Sl, Wk a a
  | [] => .nil
  | _ :: a => .same (Wk.refl a)
/-- forget a slot -/
theorem At.forget (a : At E L H0 P env σ H) : At E L H0 (setP env.length P i none) (env.set i .no) σ H := by
  by_cases hi : i < env.length
  · rw [setP_in hi]
    refine ⟨a.ex.trans (vis_of (Ex.refl _) hid_none), by simp [a.ls], by simpa using a.lp, by rw [← setP_in hi, List.length_set, setP_drop]; exact a.xt, nd_set a.nd, fun p h => ?_, fun j s hs => ?_⟩
    · rcases mem_set h with h | h
      · exact a.tr p h
      · cases h
    · by_cases e : i = j
      · subst e
        rw [List.getElem?_set_self hi] at hs
        cases hs
        exact set_none
      · rw [List.getElem?_set_ne e] at hs
        exact (a.sl j s hs).unhide (Ne.symm e)
  · rw [setP_out hi, set_id hi]
    exact a
/-- an owned thing is shared from now on -/
theorem At.share {d : D} (hi : i < env.length) (a : At E L H0 P env σ H) (w : ∃ p, σ[i]? = some (some (.ref p)) ∧ P[i]? = some (some p) ∧ Den E (hid (P.set i none) H) d (.ref p)) : At E L H0 (P.set i none) (env.set i (.v d)) σ H := by
  obtain ⟨p, w1, w2, w3⟩ := w
  refine ⟨a.ex.trans (vis_of (Ex.refl _) hid_none), by simp [a.ls], by simpa using a.lp, by rw [← setP_in hi, List.length_set, setP_drop]; exact a.xt, nd_set a.nd, fun p h => ?_, fun j s hs => ?_⟩
  · rcases mem_set h with h | h
    · exact a.tr p h
    · cases h
  · by_cases e : i = j
    · subst e
      rw [List.getElem?_set_self hi] at hs
      cases hs
      exact ⟨_, w1, w3, set_none⟩
    · rw [List.getElem?_set_ne e] at hs
      exact (a.sl j s hs).unhide (Ne.symm e)
theorem own_out (nd : ∀ (i j : Nat) (p : Addr), P[i]? = some (some p) → P[j]? = some (some p) → i = j) (h : P[i]? = some (some p)) : some p ∉ P.set i none := fun z => by
  obtain ⟨j, hj⟩ := List.mem_iff_getElem?.mp z
  by_cases e : i = j
  · subst e
    rw [List.getElem?_set] at hj
    split at hj <;> simp_all
  · rw [List.getElem?_set_ne e] at hj
    exact e (nd i j p h hj)
theorem At.weak_aux : ∀ {a b : List Sl}, Wk a b → ∀ {pre : List Sl} {P : List (Option Addr)}, At E L H0 P (pre ++ a) σ H → ∃ P', At E L H0 P' (pre ++ b) σ H
  | _, _, .nil, pre, P, h => ⟨P, h⟩
  | _, _, .same (s := s) (a := a) (b := b) w, pre, P, h => by
    obtain ⟨P', h1⟩ := At.weak_aux w (pre := pre ++ [s]) (P := P) (by simpa using h)
    exact ⟨P', by simpa using h1⟩
  | _, _, .drop (s := s) (a := a) (b := b) w, pre, P, h => by
    have h0 : At E L H0 (setP (pre ++ s :: a).length P pre.length none) (pre ++ .no :: a) σ H := by
      have := h.forget (i := pre.length)
      simpa using this
    obtain ⟨P', h1⟩ := At.weak_aux w (pre := pre ++ [.no]) (P := _) (by simpa using h0)
    exact ⟨P', by simpa using h1⟩
  | _, _, .shl (ds := ds) (a := a) (b := b) w, pre, P, h => by
    obtain ⟨p, vs, g1, g2, g3, g4⟩ := h.sl pre.length (.ol ds) (by simp)
    have h0 : At E L H0 (P.set pre.length none) (pre ++ .v (.l ds) :: a) σ H := by
      have := h.share (i := pre.length) (by simp) (d := .l ds) ⟨p, g1, g2, by
        simp only [Den]
        exact ⟨p, vs, rfl, hid_some.mpr ⟨own_out h.nd g2, g3⟩, g4.mono hid_none⟩⟩
      simpa using this
    obtain ⟨P', h1⟩ := At.weak_aux w (pre := pre ++ [.v (.l ds)]) (P := P.set pre.length none) (by simpa using h0)
    exact ⟨P', by simpa using h1⟩
  | _, _, .shk (kvs := ds) (a := a) (b := b) w, pre, P, h => by
    obtain ⟨p, vs, g1, g2, g3, g4⟩ := h.sl pre.length (.ok ds) (by simp)
    have h0 : At E L H0 (P.set pre.length none) (pre ++ .v (.k ds) :: a) σ H := by
      have := h.share (i := pre.length) (by simp) (d := .k ds) ⟨p, g1, g2, by
        simp only [Den]
        exact ⟨p, vs, rfl, .inl (hid_some.mpr ⟨own_out h.nd g2, g3⟩), g4.mono hid_none⟩⟩
      simpa using this
    obtain ⟨P', h1⟩ := At.weak_aux w (pre := pre ++ [.v (.k ds)]) (P := P.set pre.length none) (by simpa using h0)
    exact ⟨P', by simpa using h1⟩
theorem At.weak {a b : List Sl} (w : Wk a b) (h : At E L H0 P a σ H) : ∃ P', At E L H0 P' b σ H := by
  have := At.weak_aux w (pre := []) (P := P) (by simpa using h)
  simpa using this
end
end Q8
/-! Contexts and judgements. -/
namespace Q8
open PySem L2
/-- what is known of a place in the text: the program, the written part, the module's names, the def's names and scope, the room left; df: a def's own body -/
structure Ga where
  P : Program
  w : World
  K : PySem.W.Frag
  mg : Str → Option Value
  base : Heap
  cl : Nat → Addr
  N : List Str
  sc : Scope
  k : Nat
  df : Bool
abbrev Ga.en (Γ : Ga) : En := ⟨Γ.K, Γ.cl⟩
/-- the rest of a context -/
structure Rt where
  A : Around
  s_0 : Shared
  H_0 : Hp
  env : Env
  outer : List Env
  stack : List Env
  ex : List Addr
  fn : Str → Bool
  pn : List (Addr × Obj)
abbrev Ga.cx (Γ : Ga) (r : Rt) : Cx where
  prog := Γ.P
  w := Γ.w
  K := Γ.K
  mg := Γ.mg
  base := Γ.base
  A := r.A
  N := Γ.N
  s_0 := r.s_0
  H_0 := r.H_0
  env := { r.env with scope := Γ.sc }
  outer := r.outer
  stack := r.stack
  ex := r.ex
  fn := r.fn
  calm := true
  pn := r.pn
  xe := fun _ _ => False
structure Rt.Ok (Γ : Ga) (r : Rt) : Prop where
  room : Room Γ.k r.A
  fn : Γ.df = true → ∀ x, r.fn x = true
theorem Rt.Ok.hu {Γ : Ga} {r : Rt} (o : r.Ok Γ) : r.A.units + 1 < cLine := hu_of o.room
/-- a block of a comprehension -/
abbrev Ga.blk (Γ : Ga) (scope : Scope) : Ga := { Γ with sc := relS scope Γ.sc, df := false }
section
variable (Γ : Ga)
/-- e has the value d -/
structure XE (e : Expr) (env : List Sl) (d : D) : Prop where
  run : ∀ (r : Rt), r.Ok Γ → ∀ (pins : List (Addr × Obj)) (s : Shared) (σ : St) (H H0 : Hp) (L P : List (Option Addr)) (Q : VK),
  Inv (Γ.cx r) pins σ H s → At Γ.en L H0 P env σ H → (∀ v H', Ex H H' → Den Γ.en (hid P H') d v → Q v H') → wpAny (model Γ.P Γ.w) r.A (eval e (Γ.cx r).env) (EP (Γ.cx r) pins σ Q) (fun _ _ => False) s
/-- as a test -/
structure XT (e : Expr) (env : List Sl) (b : Bool) : Prop where
  run : ∀ (r : Rt), r.Ok Γ → ∀ (pins : List (Addr × Obj)) (s : Shared) (σ : St) (H H0 : Hp) (L P : List (Option Addr)) (Q : Bool → Hp → Prop),
  Inv (Γ.cx r) pins σ H s → At Γ.en L H0 P env σ H → (∀ H', Ex H H' → Q b H') → wpAny (model Γ.P Γ.w) r.A (isTrue e (Γ.cx r).env (eval e (Γ.cx r).env)) (TP (Γ.cx r) pins σ Q) (fun _ _ => False) s
/-- a test, whatever its whole is (and, or) -/
structure XW (e : Expr) (env : List Sl) (b : Bool) : Prop where
  run : ∀ (r : Rt), r.Ok Γ → ∀ (whole : Sem Value) (pins : List (Addr × Obj)) (s : Shared) (σ : St) (H H0 : Hp) (L P : List (Option Addr)) (Q : Bool → Hp → Prop),
  Inv (Γ.cx r) pins σ H s → At Γ.en L H0 P env σ H → (∀ H', Ex H H' → Q b H') → wpAny (model Γ.P Γ.w) r.A (isTrue e (Γ.cx r).env whole) (TP (Γ.cx r) pins σ Q) (fun _ _ => False) s
/-- arguments -/
structure XA (es : List Expr) (env : List Sl) (ds : List D) : Prop where
  run : ∀ (r : Rt), r.Ok Γ → ∀ (pos : Pos) (pins : List (Addr × Obj)) (s : Shared) (σ : St) (H H0 : Hp) (L P : List (Option Addr)) (Q : List V → Hp → Prop),
  Inv (Γ.cx r) pins σ H s → At Γ.en L H0 P env σ H → (∀ vs H', Ex H H' → DenL Γ.en (hid P H') ds vs → Q vs H') → wpAny (model Γ.P Γ.w) r.A (spliced (backTo pos (starEach es (Γ.cx r).env))) (AP (Γ.cx r) pins σ Q) (fun _ _ => False) s
/-- outcomes -/
inductive Out where
  | nx (env : List Sl) | rt (d : D) | bk (env : List Sl) | ct (env : List Sl)
def Fin (L : List (Option Addr)) (H0 : Hp) (Dn : Ends) : Out → Prop
  | .nx env => ∀ P σ H, At Γ.en L H0 P env σ H → Dn.nx σ H
  | .rt d => ∀ v H, Ex H0 H → Den Γ.en (hid L H) d v → Dn.rt v H
  | .bk env => ∀ P σ H, At Γ.en L H0 P env σ H → Dn.bk σ H
  | .ct env => ∀ P σ H, At Γ.en L H0 P env σ H → Dn.ct σ H
structure XS (st : Stmt) (env : List Sl) (out : Out) : Prop where
  run : ∀ (r : Rt), r.Ok Γ → ∀ (pins : List (Addr × Obj)) (s : Shared) (σ : St) (H H0 : Hp) (L P : List (Option Addr)) (Dn : Ends),
  Inv (Γ.cx r) pins σ H s → At Γ.en L H0 P env σ H → Fin Γ L H0 Dn out → wpAny (model Γ.P Γ.w) r.A (exec st (Γ.cx r).env) (SP (Γ.cx r) pins Dn) (fun _ _ => False) s
structure XSs (st : List Stmt) (env : List Sl) (out : Out) : Prop where
  run : ∀ (r : Rt), r.Ok Γ → ∀ (pins : List (Addr × Obj)) (s : Shared) (σ : St) (H H0 : Hp) (L P : List (Option Addr)) (Dn : Ends),
  Inv (Γ.cx r) pins σ H s → At Γ.en L H0 P env σ H → Fin Γ L H0 Dn out → wpAny (model Γ.P Γ.w) r.A (execs st (Γ.cx r).env) (SP (Γ.cx r) pins Dn) (fun _ _ => False) s
/-! the readings that say just this -/
def rE (e : Expr) : TE := fun σ H Q => ∃ env d H0 L P, XE Γ e env d ∧ At Γ.en L H0 P env σ H ∧ ∀ v H', Ex H H' → Den Γ.en (hid P H') d v → Q v H'
def rT (e : Expr) : TT := fun σ H Q => ∃ env b H0 L P, XT Γ e env b ∧ At Γ.en L H0 P env σ H ∧ ∀ H', Ex H H' → Q b H'
def rW (e : Expr) : TT := fun σ H Q => ∃ env b H0 L P, XW Γ e env b ∧ At Γ.en L H0 P env σ H ∧ ∀ H', Ex H H' → Q b H'
def rA (es : List Expr) : TA := fun σ H Q => ∃ env ds H0 L P, XA Γ es env ds ∧ At Γ.en L H0 P env σ H ∧ ∀ vs H', Ex H H' → DenL Γ.en (hid P H') ds vs → Q vs H'
def rS (st : Stmt) : TS := fun Dn σ H => ∃ env out H0 L P, XS Γ st env out ∧ At Γ.en L H0 P env σ H ∧ Fin Γ L H0 Dn out
def rSs (st : List Stmt) : TS := fun Dn σ H => ∃ env out H0 L P, XSs Γ st env out ∧ At Γ.en L H0 P env σ H ∧ Fin Γ L H0 Dn out
end
section
variable {Γ : Ga} {r : Rt}
theorem pe_r {e : Expr} (o : r.Ok Γ) : PE (Γ.cx r) e (rE Γ e) := ⟨fun pins s σ H Q I ⟨_, _, _, _, _, h, a, q⟩ => h.run r o pins s σ H _ _ _ Q I a q⟩
theorem pt_r {e : Expr} (o : r.Ok Γ) : PT (Γ.cx r) e (rT Γ e) := ⟨fun pins s σ H Q I ⟨_, _, _, _, _, h, a, q⟩ => h.run r o pins s σ H _ _ _ Q I a q⟩
theorem pw_r {e : Expr} (o : r.Ok Γ) : PW (Γ.cx r) e (rW Γ e) := ⟨fun wh pins s σ H Q I ⟨_, _, _, _, _, h, a, q⟩ => h.run r o wh pins s σ H _ _ _ Q I a q⟩
theorem pa_r {es : List Expr} (o : r.Ok Γ) : PA (Γ.cx r) es (rA Γ es) := ⟨fun pos pins s σ H Q I ⟨_, _, _, _, _, h, a, q⟩ => h.run r o pos pins s σ H _ _ _ Q I a q⟩
theorem ps_r {st : Stmt} (o : r.Ok Γ) : PS (Γ.cx r) st (rS Γ st) := ⟨fun pins s σ H Dn I ⟨_, _, _, _, _, h, a, q⟩ => h.run r o pins s σ H _ _ _ Dn I a q⟩
theorem pss_r {st : List Stmt} (o : r.Ok Γ) : PSs (Γ.cx r) st (rSs Γ st) := ⟨fun pins s σ H Dn I ⟨_, _, _, _, _, h, a, q⟩ => h.run r o pins s σ H _ _ _ Dn I a q⟩
variable {e a b c : Expr} {es : List Expr} {env env' : List Sl} {d d' d1 d2 d3 : D} {ds : List D} {H H0 : Hp} {L P : List (Option Addr)} {σ : St}
theorem XE.rd (h : XE Γ e env d) (a : At Γ.en L H0 P env σ H) {Q : VK} (q : ∀ v H', Ex H H' → Den Γ.en (hid P H') d v → Q v H') : rE Γ e σ H Q := ⟨_, _, _, _, _, h, a, q⟩
theorem XT.rd {t : Bool} (h : XT Γ e env t) (a : At Γ.en L H0 P env σ H) {Q : Bool → Hp → Prop} (q : ∀ H', Ex H H' → Q t H') : rT Γ e σ H Q := ⟨_, _, _, _, _, h, a, q⟩
theorem XW.rd {t : Bool} (h : XW Γ e env t) (a : At Γ.en L H0 P env σ H) {Q : Bool → Hp → Prop} (q : ∀ H', Ex H H' → Q t H') : rW Γ e σ H Q := ⟨_, _, _, _, _, h, a, q⟩
theorem XA.rd (h : XA Γ es env ds) (a : At Γ.en L H0 P env σ H) {Q : List V → Hp → Prop} (q : ∀ v H', Ex H H' → DenL Γ.en (hid P H') ds v → Q v H') : rA Γ es σ H Q := ⟨_, _, _, _, _, h, a, q⟩
/-- a rule of the layer below, read -/
theorem xe_of (h : ∀ r : Rt, r.Ok Γ → ∃ t : TE, PE (Γ.cx r) e t ∧ ∀ σ H H0 L P Q, At Γ.en L H0 P env σ H → (∀ v H', Ex H H' → Den Γ.en (hid P H') d v → Q v H') → t σ H Q) : XE Γ e env d := by
  refine ⟨fun r o pins s σ H H0 L P Q I a q => ?_⟩
  obtain ⟨t, h1, h2⟩ := h r o
  exact h1.run pins s σ H Q I (h2 σ H H0 L P Q a q)
theorem xt_of {t : Bool} (h : ∀ r : Rt, r.Ok Γ → ∃ u : TT, PT (Γ.cx r) e u ∧ ∀ σ H H0 L P Q, At Γ.en L H0 P env σ H → (∀ H', Ex H H' → Q t H') → u σ H Q) : XT Γ e env t := by
  refine ⟨fun r o pins s σ H H0 L P Q I a q => ?_⟩
  obtain ⟨t, h1, h2⟩ := h r o
  exact h1.run pins s σ H Q I (h2 σ H H0 L P Q a q)
theorem xw_of {t : Bool} (h : ∀ r : Rt, r.Ok Γ → ∃ u : TT, PW (Γ.cx r) e u ∧ ∀ σ H H0 L P Q, At Γ.en L H0 P env σ H → (∀ H', Ex H H' → Q t H') → u σ H Q) : XW Γ e env t := by
  refine ⟨fun r o wh pins s σ H H0 L P Q I a q => ?_⟩
  obtain ⟨t, h1, h2⟩ := h r o
  exact h1.run wh pins s σ H Q I (h2 σ H H0 L P Q a q)
theorem xs_of {st : Stmt} {out : Out} (h : ∀ r : Rt, r.Ok Γ → ∃ u : TS, PS (Γ.cx r) st u ∧ ∀ σ H H0 L P Dn, At Γ.en L H0 P env σ H → Fin Γ L H0 Dn out → u Dn σ H) : XS Γ st env out := by
  refine ⟨fun r o pins s σ H H0 L P Q I a q => ?_⟩
  obtain ⟨t, h1, h2⟩ := h r o
  exact h1.run pins s σ H Q I (h2 σ H H0 L P Q a q)
theorem xss_of {st : List Stmt} {out : Out} (h : ∀ r : Rt, r.Ok Γ → ∃ u : TS, PSs (Γ.cx r) st u ∧ ∀ σ H H0 L P Dn, At Γ.en L H0 P env σ H → Fin Γ L H0 Dn out → u Dn σ H) : XSs Γ st env out := by
  refine ⟨fun r o pins s σ H H0 L P Q I a q => ?_⟩
  obtain ⟨t, h1, h2⟩ := h r o
  exact h1.run pins s σ H Q I (h2 σ H H0 L P Q a q)
/-! ### names, constants -/
theorem xe_var (i : Nat) {x : Str} {pos : Pos} (he : env[i]? = some (.v d)) (hN : Γ.N[i]? = some x) (hv : Vis Γ.sc x) (hd : (x == ("__debug__" : Str)) = false := by decide) (hcd : (x == ("__classdict__" : Str)) = false := by decide) : XE Γ (.Name x pos) env d := xe_of fun r o =>
  ⟨tVar i, pe_var (X := Γ.cx r) hN hv hd hcd, fun σ H H0 L P Q a q => by
    obtain ⟨v, h1, h2, _⟩ := a.sl i _ he
    exact ⟨v, h1, q v H (Ex.refl H) h2⟩⟩
theorem xe_int {i : Int} {j pos} : XE Γ (.Constant (.int i) j pos) env (.i i) := xe_of fun r o => ⟨_, pe_int, fun σ H H0 L P Q a q => q _ H (Ex.refl H) (by simp only [Den])⟩
theorem xe_bl {i : Bool} {j pos} : XE Γ (.Constant (.bool i) j pos) env (.b i) := xe_of fun r o => ⟨_, pe_bl, fun σ H H0 L P Q a q => q _ H (Ex.refl H) (by simp only [Den])⟩
theorem xe_non {j pos} : XE Γ (.Constant .none j pos) env .n := xe_of fun r o => ⟨_, pe_non, fun σ H H0 L P Q a q => q _ H (Ex.refl H) (by simp only [Den])⟩
theorem xe_str {x : Str} {l : List Nat} {j pos} (hx : x = ⟨l.toArray⟩) : XE Γ (.Constant (.str x) j pos) env (.s l) := xe_of fun r o => ⟨_, pe_str, fun σ H H0 L P Q a q => q _ H (Ex.refl H) (by simp only [Den, hx])⟩
def Gl' (Γ : Ga) (x : Str) : Prop := Γ.sc.names.lookup x = some .globalImplicit
/-- a module's constant -/
theorem xe_glob {x : Str} {pos : Pos} {u : Value} {v : V} (hm : Γ.mg x = some u) (ru : RelV v u) (hd : ∀ H, Den Γ.en H d v) (hg : Gl' Γ x) (hdb : (x == ("__debug__" : Str)) = false := by decide) : XE Γ (.Name x pos) env d := xe_of fun r o =>
  ⟨_, pe_glob (X := Γ.cx r) hg hm ru hdb, fun σ H H0 L P Q a q => q _ H (Ex.refl H) (hd _)⟩
/-- a built-in's name as a value (a type) -/
theorem xe_bty {x : Str} {pos : Pos} {n : String} (hm : Γ.mg x = none) (hg : Gl' Γ x) (hv : bootBuiltins x = some (.type n)) (hn : x ≠ "__name__" := by decide) (hdb : (x == ("__debug__" : Str)) = false := by decide) : XE Γ (.Name x pos) env (.y n) := xe_of fun r o =>
  ⟨_, pe_bltn (X := Γ.cx r) (v := .ty n) hg hm hv rfl hn hdb, fun σ H H0 L P Q a q => q _ H (Ex.refl H) (by simp only [Den])⟩
/-! ### two places -/
theorem xe_op {f : Operator} {pos : Pos} {R : R2} (ho : ∀ r : Rt, r.Ok Γ → OpR (Γ.cx r) (binaryOp f) R) (ha : XE Γ a env d1) (hb : XE Γ b env d2)
    (hr : ∀ P H v u Q, Den Γ.en (hid P H) d1 v → Den Γ.en (hid P H) d2 u → (∀ p, some p ∈ P → ∃ o, H p = some o) → (∀ z H', Ex H H' → Den Γ.en (hid P H') d z → Q z H') → R v u H Q) : XE Γ (.BinOp a f b pos) env d := xe_of fun r o =>
  ⟨_, pe_op (ho r o) (pe_r o) (pe_r o), fun σ H H0 L P Q at0 q => ha.rd at0 fun v H1 e1 h1 => hb.rd (at0.grow e1) fun u H2 e2 h2 =>
    hr P H2 v u Q (h1.mono (hid_mono e2)) h2 (at0.grow (e1.trans e2)).tr fun z H' e3 h3 => q z H' ((e1.trans e2).trans e3) h3⟩
theorem xe_cmp {f : CmpOp} {pos : Pos} {R : R2} (ho : ∀ r : Rt, r.Ok Γ → OpR (Γ.cx r) (compareOp f) R) (hm : behindInMarks f b = false) (ha : XE Γ a env d1) (hb : XE Γ b env d2)
    (hr : ∀ P H v u Q, Den Γ.en (hid P H) d1 v → Den Γ.en (hid P H) d2 u → (∀ p, some p ∈ P → ∃ o, H p = some o) → (∀ z H', Ex H H' → Den Γ.en (hid P H') d z → Q z H') → R v u H Q) : XE Γ (.Compare a [f] [b] pos) env d := xe_of fun r o =>
  ⟨_, pe_cmpR (ho r o) (pe_r o) (pe_r o) hm, fun σ H H0 L P Q at0 q => ha.rd at0 fun v H1 e1 h1 => hb.rd (at0.grow e1) fun u H2 e2 h2 =>
    hr P H2 v u Q (h1.mono (hid_mono e2)) h2 (at0.grow (e1.trans e2)).tr fun z H' e3 h3 => q z H' ((e1.trans e2).trans e3) h3⟩
/-- a comparison as a test -/
theorem xt_cmp {f : CmpOp} {pos : Pos} {R : R2} {t : Bool} (ho : ∀ r : Rt, r.Ok Γ → OpR (Γ.cx r) (compareOp f) R) (hm : behindInMarks f b = false) (ha : XE Γ a env d1) (hb : XE Γ b env d2)
    (hr : ∀ P H v u Q, Den Γ.en (hid P H) d1 v → Den Γ.en (hid P H) d2 u → (∀ p, some p ∈ P → ∃ o, H p = some o) → (∀ H', Ex H H' → Q (V.bl t) H') → R v u H Q) : XT Γ (.Compare a [f] [b] pos) env t := xt_of fun r o =>
  ⟨_, pt_cmpR (ho r o) (pe_r o) (pe_r o) hm, fun σ H H0 L P Q at0 q => ha.rd at0 fun v H1 e1 h1 => hb.rd (at0.grow e1) fun u H2 e2 h2 =>
    hr P H2 v u _ (h1.mono (hid_mono e2)) h2 (at0.grow (e1.trans e2)).tr fun H' e3 => ⟨t, rfl, q H' ((e1.trans e2).trans e3)⟩⟩
theorem xt_val {t : Bool} (he : XE Γ e env (.b t)) (hs : ∀ (ev : Env) whole, isTrue e ev whole = (do let v ← whole; standAt e.pos; holding [v] (truthy v)) := by intro _ _; rfl) : XT Γ e env t := xt_of fun r o =>
  ⟨_, pt_val (pe_r o) (hs _), fun σ H H0 L P Q at0 q => he.rd at0 fun v H1 e1 h1 => ⟨t, by simpa only [Den] using h1, q H1 e1⟩⟩
theorem XW.xt {t : Bool} (h : XW Γ e env t) : XT Γ e env t := ⟨fun r o pins s σ H H0 L P Q I a q => h.run r o _ pins s σ H H0 L P Q I a q⟩
theorem xt_not {pos : Pos} {t : Bool} (h : XT Γ a env t) : XT Γ (.UnaryOp .Not a pos) env (!t) := xt_of fun r o =>
  ⟨_, pt_not (pt_r o), fun σ H H0 L P Q at0 q => h.rd at0 fun H1 e1 => q H1 e1⟩
theorem xw_and1 {pos : Pos} {t : Bool} (h : XT Γ a env t) : XW Γ (.BoolOp .And [a] pos) env t := xw_of fun r o =>
  ⟨_, pw_and1 (pt_r o), fun σ H H0 L P Q at0 q => h.rd at0 q⟩
theorem xw_or1 {pos : Pos} {t : Bool} (h : XT Γ a env t) : XW Γ (.BoolOp .Or [a] pos) env t := xw_of fun r o =>
  ⟨_, pw_or1 (pt_r o), fun σ H H0 L P Q at0 q => h.rd at0 q⟩
theorem xw_and {pos : Pos} {t u : Bool} {rest : List Expr} (h : XT Γ a env t) (h2 : t = true → XW Γ (.BoolOp .And (b :: rest) pos) env u) : XW Γ (.BoolOp .And (a :: b :: rest) pos) env (t && u) := xw_of fun r o =>
  ⟨_, pw_and (pt_r o) (pw_r o), fun σ H H0 L P Q at0 q => h.rd at0 fun H1 e1 => by
    cases t with
    | true => exact (h2 rfl).rd (at0.grow e1) fun H2 e2 => q H2 (e1.trans e2)
    | false => exact q H1 e1⟩
theorem xw_or {pos : Pos} {t u : Bool} {rest : List Expr} (h : XT Γ a env t) (h2 : t = false → XW Γ (.BoolOp .Or (b :: rest) pos) env u) : XW Γ (.BoolOp .Or (a :: b :: rest) pos) env (t || u) := xw_of fun r o =>
  ⟨_, pw_or (pt_r o) (pw_r o), fun σ H H0 L P Q at0 q => h.rd at0 fun H1 e1 => by
    cases t with
    | false => exact (h2 rfl).rd (at0.grow e1) fun H2 e2 => q H2 (e1.trans e2)
    | true => exact q H1 e1⟩
/-! as values -/
theorem xe_bool1 {f} {pos : Pos} (h : XE Γ a env d) : XE Γ (.BoolOp f [a] pos) env d := xe_of fun r o => ⟨_, pe_one (pe_r o), fun σ H H0 L P Q at0 q => h.rd at0 q⟩
theorem xe_and {pos : Pos} {t u : Bool} {rest : List Expr} (h : XE Γ a env (.b t)) (h2 : t = true → XE Γ (.BoolOp .And (b :: rest) pos) env (.b u)) : XE Γ (.BoolOp .And (a :: b :: rest) pos) env (.b (t && u)) := xe_of fun r o =>
  ⟨_, pe_and (pe_r o) (pe_r o), fun σ H H0 L P Q at0 q => h.rd at0 fun v H1 e1 h1 => ⟨t, by simpa only [Den] using h1, by
    cases t with
    | true => exact (h2 rfl).rd (at0.grow e1) fun v H2 e2 h => q v H2 (e1.trans e2) h
    | false => exact q _ H1 e1 (by simp only [Den, Bool.false_and])⟩⟩
theorem xe_or {pos : Pos} {t u : Bool} {rest : List Expr} (h : XE Γ a env (.b t)) (h2 : t = false → XE Γ (.BoolOp .Or (b :: rest) pos) env (.b u)) : XE Γ (.BoolOp .Or (a :: b :: rest) pos) env (.b (t || u)) := xe_of fun r o =>
  ⟨_, pe_or (pe_r o) (pe_r o), fun σ H H0 L P Q at0 q => h.rd at0 fun v H1 e1 h1 => ⟨t, by simpa only [Den] using h1, by
    cases t with
    | false => exact (h2 rfl).rd (at0.grow e1) fun v H2 e2 h => q v H2 (e1.trans e2) h
    | true => exact q _ H1 e1 (by simp only [Den, Bool.true_or])⟩⟩
theorem xe_not {pos : Pos} {t : Bool} (h : XE Γ a env (.b t)) : XE Γ (.UnaryOp .Not a pos) env (.b (!t)) := xe_of fun r o =>
  ⟨_, pe_not (pe_r o), fun σ H H0 L P Q at0 q => h.rd at0 fun v H1 e1 h1 => ⟨t, by simpa only [Den] using h1, q _ H1 e1 (by simp only [Den])⟩⟩
theorem xe_if {pos : Pos} {t : Bool} (h : XT Γ c env t) (h1 : t = true → XE Γ a env d) (h2 : t = false → XE Γ b env d) : XE Γ (.IfExp c a b pos) env d := xe_of fun r o =>
  ⟨_, pe_ifExp (pt_r o) (pe_r o) (pe_r o), fun σ H H0 L P Q at0 q => h.rd at0 fun H1 e1 => by
    cases t with
    | true => exact (h1 rfl).rd (at0.grow e1) fun v H2 e2 h => q v H2 (e1.trans e2) h
    | false => exact (h2 rfl).rd (at0.grow e1) fun v H2 e2 h => q v H2 (e1.trans e2) h⟩
/-! ### arguments, displays -/
theorem xa_nil : XA Γ [] env [] := ⟨fun r o pos pins s σ H H0 L P Q I a q => (pa_nil (X := Γ.cx r)).run pos pins s σ H Q I (q [] H (Ex.refl H) DenL.nil)⟩
theorem xa_cons (h : XE Γ e env d) (t : XA Γ es env ds) (hs : ∀ ev : Env, starEach (e :: es) ev = (false, eval e ev) :: starEach es ev := by intro _; rfl) : XA Γ (e :: es) env (d :: ds) := ⟨fun r o pos pins s σ H H0 L P Q I at0 q =>
  (pa_cons (X := Γ.cx r) (pe_r o) (pa_r o) (hs _)).run pos pins s σ H Q I (h.rd at0 fun v H1 e1 h1 => t.rd (at0.grow e1) fun vs H2 e2 h2 => q _ H2 (e1.trans e2) ((h1.mono (hid_mono e2)).cons h2))⟩
theorem fresh_hid {p : Addr} (hp : H p = none) (tr : ∀ p, some p ∈ P → ∃ o, H p = some o) : some p ∉ P := fun h => by
  obtain ⟨o, h'⟩ := tr p h
  rw [hp] at h'
  cases h'
theorem hid_new {p : Addr} {o : HO} (hp : H p = none) (tr : ∀ p, some p ∈ P → ∃ o, H p = some o) : hid P (upd H p o) p = some o := hid_some.mpr ⟨fresh_hid hp tr, upd_same⟩
theorem den_lst {p : Addr} {vs : List V} (hp : H p = none) (tr : ∀ p, some p ∈ P → ∃ o, H p = some o) (h : DenL Γ.en (hid P H) ds vs) : Den Γ.en (hid P (upd H p (.lst vs))) (.l ds) (.ref p) := by
  simp only [Den]
  exact ⟨p, vs, rfl, hid_new hp tr, h.mono (hid_mono (Ex.new hp))⟩
theorem den_tup {p : Addr} {vs : List V} (hp : H p = none) (tr : ∀ p, some p ∈ P → ∃ o, H p = some o) (h : DenL Γ.en (hid P H) ds vs) : Den Γ.en (hid P (upd H p (.tup vs))) (.t ds) (.ref p) := by
  simp only [Den]
  exact ⟨p, vs, rfl, SqT.of (hid_new hp tr), h.mono (hid_mono (Ex.new hp))⟩
theorem xe_lst {pos : Pos} (h : XA Γ es env ds) (hl : ds.length ≤ 100000 := by simp) : XE Γ (.List es pos) env (.l ds) := xe_of fun r o =>
  ⟨_, pe_lst (pa_r o), fun σ H H0 L P Q at0 q => h.rd at0 fun vs H1 e1 h1 => ⟨Evl.sz_of (by rw [h1.len]; exact hl), fun p hp => q _ _ (e1.trans (Ex.new hp)) (den_lst hp (at0.grow e1).tr h1)⟩⟩
theorem xe_tup {x1} {pos : Pos} (h : XA Γ es env ds) (hl : ds.length ≤ 100000 := by simp) : XE Γ (.Tuple es x1 pos) env (.t ds) := xe_of fun r o =>
  ⟨_, pe_tup (pa_r o), fun σ H H0 L P Q at0 q => h.rd at0 fun vs H1 e1 h1 => ⟨Evl.sz_of (by rw [h1.len]; exact hl), fun p hp => q _ _ (e1.trans (Ex.new hp)) (den_tup hp (at0.grow e1).tr h1)⟩⟩
/-! ### statements -/
theorem xss_nil : XSs Γ [] env (.nx env) := xss_of fun r o => ⟨_, pss_nil, fun σ H H0 L P Dn at0 q => q P σ H at0⟩
theorem xss_cons {st : Stmt} {rest : List Stmt} {out : Out} (h : XS Γ st env (.nx env')) (t : XSs Γ rest env' out) : XSs Γ (st :: rest) env out := xss_of fun r o =>
  ⟨_, pss_cons (ps_r o) (pss_r o), fun σ H H0 L P Dn at0 q => ⟨env, _, H0, L, P, h, at0, fun P' σ' H' at1 => ⟨env', out, H0, L, P', t, at1, q⟩⟩⟩
/-- what leaves the block -/
inductive Leaves : Out → Prop
  | rt (d : D) : Leaves (.rt d) | bk (e : List Sl) : Leaves (.bk e) | ct (e : List Sl) : Leaves (.ct e)
theorem xss_stop {st : Stmt} {rest : List Stmt} {out : Out} (hl : Leaves out) (h : XS Γ st env out) : XSs Γ (st :: rest) env out := xss_of fun r o =>
  ⟨_, pss_cons (ps_r o) pss_never, fun σ H H0 L P Dn at0 q => ⟨env, out, H0, L, P, h, at0, by cases hl <;> exact q⟩⟩
theorem xss_one {st : Stmt} {out : Out} (h : XS Γ st env out) : XSs Γ [st] env out := xss_of fun r o =>
  ⟨_, pss_one (ps_r o), fun σ H H0 L P Dn at0 q => ⟨env, out, H0, L, P, h, at0, q⟩⟩
theorem xs_ret {pos : Pos} (h : XE Γ e env d) : XS Γ (.Return (some e) pos) env (.rt d) := xs_of fun r o =>
  ⟨_, ps_ret (pe_r o), fun σ H H0 L P Dn at0 q => h.rd at0 fun v H1 e1 h1 => q v H1 ((at0.grow e1).ex.trans vis_sub) (h1.mono (hid_less fun a ha => by rw [← at0.xt] at ha; exact List.mem_of_mem_drop ha))⟩
theorem xs_break {pos : Pos} : XS Γ (.Break pos) env (.bk env) := xs_of fun r o => ⟨_, ps_break, fun σ H H0 L P Dn at0 q => q P σ H at0⟩
theorem xs_if {pos : Pos} {x y : List Stmt} {t : Bool} {out : Out} (h : XT Γ c env t) (h1 : t = true → XSs Γ x env out) (h2 : t = false → XSs Γ y env out) : XS Γ (.If c x y pos) env out := xs_of fun r o =>
  ⟨_, ps_if (pt_r o) (pss_r o) (pss_r o), fun σ H H0 L P Dn at0 q => h.rd at0 fun H1 e1 => by
    cases t with
    | true => exact ⟨env, out, H0, L, P, h1 rfl, at0.grow e1, q⟩
    | false => exact ⟨env, out, H0, L, P, h2 rfl, at0.grow e1, q⟩⟩
theorem xs_expr {pos : Pos} (h : XE Γ e env d) (hs : ∀ ev : Env, swapsWith e none pos.line { ev with scope := Γ.sc } = pure false := by intro _; rfl) : XS Γ (.Expr e pos) env (.nx env) := xs_of fun r o =>
  ⟨_, ps_expr (pe_r o) (hs r.env), fun σ H H0 L P Dn at0 q => h.rd at0 fun v H1 e1 h1 => q P σ H1 (at0.grow e1)⟩
/-- what a store needs of the name -/
structure Put (Γ : Ga) (i : Nat) (x : Str) : Prop where
  nd : Γ.N.Nodup
  ix : Γ.N[i]? = some x
  lc : Loc Γ.sc x
  fl : Γ.df = true ∨ Γ.sc.names.lookup x = some .local
theorem Put.fn {i : Nat} {x : Str} (p : Put Γ i x) (o : r.Ok Γ) : (Γ.cx r).fn x = true ∨ (Γ.cx r).env.scope.names.lookup x = some .local := by
  rcases p.fl with h | h
  · exact .inl (o.fn h x)
  · exact .inr h
theorem xs_set (i : Nat) {x : Str} {pos pos' : Pos} (h : XE Γ e env d) (p : Put Γ i x) (hs : ∀ ev : Env, swapsWith e (some (.Name x pos')) pos.line { ev with scope := Γ.sc } = pure false := by intro _; rfl) :
    XS Γ (.Assign [.Name x pos'] e pos) env (.nx (env.set i (.v d))) := xs_of fun r o =>
  ⟨_, ps_set (X := Γ.cx r) p.nd p.ix p.lc (pe_r o) (hs r.env) (p.fn o), fun σ H H0 L P Dn at0 q => h.rd at0 fun v H1 e1 h1 => q _ _ _ ((at0.grow e1).setv h1)⟩
/-- two ways of a state -/
theorem XSs.imp {st : List Stmt} {out : Out} (h : XSs Γ st env' out) (w : ∀ L H0 P σ H, At Γ.en L H0 P env σ H → ∃ P', At Γ.en L H0 P' env' σ H) : XSs Γ st env out := ⟨fun r o pins s σ H H0 L P Dn I at0 q => by
  obtain ⟨P', a1⟩ := w L H0 P σ H at0
  exact h.run r o pins s σ H H0 L P' Dn I a1 q⟩
end
end Q8
/-! Iterators, loops, comprehensions. -/
namespace Q8
open PySem L2
/-- what a walk gives at turn i: an item that stands, or a new tuple -/
def Gives (E : En) (Hb : Hp) (ds : List D) (i : Nat) (Ha : Hp) (v : V) (Hc : Hp) : Prop :=
  ∃ d, ds[i]? = some d ∧ ((Hc = Ha ∧ Den E Hb d v) ∨ ∃ T vs es, v = .ref T ∧ Ha T = none ∧ Hc = upd Ha T (.tup vs) ∧ d = .t es ∧ DenL E Hb es vs)
def WalkD (E : En) (Hb : Hp) (J : It) (ds : List D) : Prop := Walk J ds.length (fun H' => Ex Hb H') (Gives E Hb ds)
section
variable (Γ : Ga)
def XI (tg iter : Expr) (env : List Sl) (ds : List D) : Prop := ∃ wi : TI, (∀ r : Rt, r.Ok Γ → PI (Γ.cx r) tg iter wi) ∧
  ∀ H0 L P σ H R, At Γ.en L H0 P env σ H → (∀ J H1, Ex H H1 → WalkD Γ.en (hid P H1) J ds → R J H1) → wi σ H R
/-- a target: the slots ix take the item's parts -/
def XG (tg : Expr) (ix : List Nat) (put : List Sl → D → List Sl → Prop) : Prop := ∃ g : TG, (∀ r : Rt, r.Ok Γ → PG (Γ.cx r) tg g) ∧
  ∀ H0 L P env env' σ H d v, At Γ.en L H0 P env σ H → Den Γ.en (hid P H) d v → put env d env' → ∀ Q, (∀ P' σ', At Γ.en L H0 P' env' σ' H → (∀ a, some a ∈ P → some a ∈ P' ∨ ∃ j ∈ ix, P[j]? = some (some a)) → σ'.length = σ.length → (∀ j, j ∉ ix → σ'[j]? = σ[j]?) → Q σ' H) → g v σ H Q
/-- a loop's turns from here -/
inductive Loop (put : List Sl → D → List Sl → Prop) (body : List Stmt) : List Sl → List D → Out → Prop
  | nil {env : List Sl} : Loop put body env [] (.nx env)
  | nx {env e1 e2 e3 : List Sl} {d : D} {ds : List D} {out : Out} : put env d e1 → XSs Γ body e1 (.nx e2) → Wk e2 e3 → Loop put body e3 ds out → Loop put body env (d :: ds) out
  | ct {env e1 e2 e3 : List Sl} {d : D} {ds : List D} {out : Out} : put env d e1 → XSs Γ body e1 (.ct e2) → Wk e2 e3 → Loop put body e3 ds out → Loop put body env (d :: ds) out
  | bk {env e1 e2 : List Sl} {d : D} {ds : List D} : put env d e1 → XSs Γ body e1 (.bk e2) → Loop put body env (d :: ds) (.nx e2)
  | rt {env e1 : List Sl} {d x : D} {ds : List D} : put env d e1 → XSs Γ body e1 (.rt x) → Loop put body env (d :: ds) (.rt x)
end
section
variable {Γ : Ga} {e a b c tg iter : Expr} {env env' : List Sl} {d : D} {ds : List D} {H H0 : Hp} {L P : List (Option Addr)} {σ : St} {put : List Sl → D → List Sl → Prop} {body : List Stmt} {ix : List Nat}
theorem XSs.weakL {st : List Stmt} {out : Out} (h : XSs Γ st env' out) (w : Wk env env') : XSs Γ st env out := h.imp fun L H0 P σ H a => At.weak w a
theorem Fin.weak {Dn : Ends} {e2 e3 : List Sl} (w : Wk e2 e3) (h : Fin Γ L H0 Dn (.nx e3)) : Fin Γ L H0 Dn (.nx e2) := fun P σ H a => let ⟨P', a'⟩ := At.weak w a; h P' σ H a'
theorem XSs.weakR {st : List Stmt} {e2 e3 : List Sl} (h : XSs Γ st env (.nx e2)) (w : Wk e2 e3) : XSs Γ st env (.nx e3) := ⟨fun r o pins s σ H H0 L P Dn I at0 q => h.run r o pins s σ H H0 L P Dn I at0 (Fin.weak w q)⟩
theorem XS.weakR {st : Stmt} {e2 e3 : List Sl} (h : XS Γ st env (.nx e2)) (w : Wk e2 e3) : XS Γ st env (.nx e3) := ⟨fun r o pins s σ H H0 L P Dn I at0 q => h.run r o pins s σ H H0 L P Dn I at0 (Fin.weak w q)⟩
theorem Fin.base {Dn : Ends} {H1 : Hp} {out : Out} (e : Ex H0 H1) (h : Fin Γ L H0 Dn out) : Fin Γ L H1 Dn out := by
  cases out with
  | nx env => exact fun P σ H a => h P σ H (a.base e)
  | rt d => exact fun v H e1 hd => h v H (e.trans e1) hd
  | bk env => exact fun P σ H a => h P σ H (a.base e)
  | ct env => exact fun P σ H a => h P σ H (a.base e)
/-- an item of a walk as data of now -/
theorem Gives.den {Hb Ha Hc : Hp} {i : Nat} {v : V} {P0 : List (Option Addr)} (hl : ∀ a, some a ∈ L → some a ∈ P0) (g : Gives Γ.en (hid P0 Hb) ds i Ha v Hc) (a : At Γ.en L (vis L P0 Hb) P env σ Ha) : ∃ d, ds[i]? = some d ∧ At Γ.en L (vis L P0 Hb) P env σ Hc ∧ Den Γ.en (hid P Hc) d v := by
  obtain ⟨d, h1, ⟨h2, h3⟩ | ⟨T, vs, es, rfl, hT, rfl, rfl, h3⟩⟩ := g
  · subst h2
    exact ⟨d, h1, a, h3.mono (vis_hid hl a.ex)⟩
  · exact ⟨_, h1, a.grow (Ex.new hT), den_tup hT a.tr (h3.mono (vis_hid hl a.ex))⟩
theorem xs_for {pos : Pos} {out : Out} (hi : XI Γ tg iter env ds) (hg : XG Γ tg ix put) (hl : Loop Γ put body env ds out) (hs : ∀ (ev : Env) x, foldedSetIterable iter ev x = pure x := by intro _ _; rfl) : XS Γ (.For tg iter body [] pos) env out := xs_of fun r o => by
  obtain ⟨wi, hi1, hi2⟩ := hi
  obtain ⟨g, hg1, hg2⟩ := hg
  refine ⟨_, ps_for PassesOwn.never rfl (hi1 r o) (hg1 r o) (pss_r o) (hs _), fun σ H H0 L P Dn at0 q => hi2 H0 L P σ H _ at0 fun J H1 e1 w => ?_⟩
  have a1 := (at0.grow e1).self
  have e0 : Ex H0 (vis L P H1) := (at0.grow e1).ex
  have hlm := (at0.grow e1).lm
  have q1 : Fin Γ L (vis L P H1) Dn out := q.base e0
  refine for_it w (fun i σ H => ∃ P' env', Loop Γ put body env' (ds.drop i) out ∧ At Γ.en L (vis L P H1) P' env' σ H) ⟨P, env, by simpa using hl, a1⟩ (fun i σ H _ ⟨P', env', _, a⟩ => hid_vis.trans (a.ex.trans vis_sub)) ?_ ?_
  · rintro i x σ2 Ha Hc hi ⟨P', env', hl, a⟩ y
    obtain ⟨d, hd, ac, dn⟩ := Gives.den hlm y a
    have hdrop : ds.drop i = d :: ds.drop (i + 1) := by
      rw [List.drop_eq_getElem_cons hi]
      rw [List.getElem?_eq_getElem hi] at hd
      rw [Option.some.inj hd]
    rw [hdrop] at hl
    cases hl with
    | nx hp hb hw hl2 => exact hg2 _ _ _ _ _ _ _ _ _ ac dn hp _ fun P2 σ3 a3 _ _ _ => ⟨_, _, _, _, _, hb, a3, fun P3 σ4 H4 a4 => let ⟨P5, a5⟩ := At.weak hw a4; ⟨P5, _, hl2, a5⟩⟩
    | ct hp hb hw hl2 => exact hg2 _ _ _ _ _ _ _ _ _ ac dn hp _ fun P2 σ3 a3 _ _ _ => ⟨_, _, _, _, _, hb, a3, fun P3 σ4 H4 a4 => let ⟨P5, a5⟩ := At.weak hw a4; ⟨P5, _, hl2, a5⟩⟩
    | bk hp hb => exact hg2 _ _ _ _ _ _ _ _ _ ac dn hp _ fun P2 σ3 a3 _ _ _ => ⟨_, _, _, _, _, hb, a3, fun P3 σ4 H4 a4 => q1 P3 σ4 H4 a4⟩
    | rt hp hb => exact hg2 _ _ _ _ _ _ _ _ _ ac dn hp _ fun P2 σ3 a3 _ _ _ => ⟨_, _, _, _, _, hb, a3, fun v H4 e4 d4 => q1 v H4 e4 d4⟩
  · rintro σ2 H2 ⟨P', env', hl, a⟩
    rw [List.drop_length] at hl
    cases hl with
    | nil => exact q1 P' σ2 H2 a
/-! ### targets -/
theorem set_keep {i : Nat} {c : Addr} (h : some c ∈ P) : some c ∈ P.set i none ∨ P[i]? = some (some c) := by
  obtain ⟨j, hj⟩ := List.mem_iff_getElem?.mp h
  by_cases e : i = j
  · subst e
    exact .inr hj
  · exact .inl (List.mem_of_getElem? (i := j) (by rw [List.getElem?_set_ne e]; exact hj))
def putN (i : Nat) : List Sl → D → List Sl → Prop := fun env d env' => i < env.length ∧ env' = env.set i (.v d)
theorem xg_name (i : Nat) {x : Str} {pos : Pos} (p : Put Γ i x) : XG Γ (.Name x pos) [i] (putN i) :=
  ⟨gName i, fun r o => pg_name (X := Γ.cx r) p.nd p.ix p.lc (p.fn o), fun H0 L P env env' σ H d v a h hp Q q => by
    obtain ⟨hi, rfl⟩ := hp
    refine q _ _ (a.setv h) (fun c hc => ?_) (by simp) (fun j hj => ?_)
    · rw [setP_in hi]
      exact (set_keep hc).imp id fun z => ⟨i, by simp, z⟩
    · rw [List.getElem?_set_ne (fun z => hj (by simp [z]))]⟩
/-- a tuple of two names -/
def put2 (i j : Nat) : List Sl → D → List Sl → Prop := fun env d env' => i < env.length ∧ j < env.length ∧ ∃ x y, d = .t [x, y] ∧ env' = (env.set i (.v x)).set j (.v y)
theorem xg_two (i j : Nat) {x y : Str} {pos px py : Pos} {k : Nat} (p : Put Γ i x) (q : Put Γ j y) : XG Γ (.Tuple [.Name x px, .Name y py] k pos) [i, j] (put2 i j) :=
  ⟨gTup Γ.K 2 (gCons (gName i) (gCons (gName j) gNil)), fun r o => pg_tup (X := Γ.cx r) rfl (pgs_cons (pg_name (X := Γ.cx r) p.nd p.ix p.lc (p.fn o)) (pgs_cons (pg_name (X := Γ.cx r) q.nd q.ix q.lc (q.fn o)) pgs_nil)), fun H0 L P env env' σ H d v a h hp Q qq => by
    obtain ⟨hi, hj, u, w, rfl, rfl⟩ := hp
    simp only [Den] at h
    obtain ⟨p', vs, rfl, hT, hv⟩ := h
    obtain ⟨v1, r1, rfl, d1, hv2⟩ := (by simpa only [DenL] using hv : ∃ v r, vs = v :: r ∧ Den Γ.en (hid P H) u v ∧ ∃ v_1 r_1, r = v_1 :: r_1 ∧ Den Γ.en (hid P H) w v_1 ∧ r_1 = [])
    obtain ⟨v2, r2, rfl, d2, rfl⟩ := hv2
    refine ⟨p', _, rfl, ex_t hid_sub hT, rfl, v1, _, rfl, v2, _, rfl, rfl, ?_⟩
    have a1 := a.setv (i := i) d1
    have a2 := a1.setv (i := j) (d2.mono setP_less)
    rw [setP_in (by simpa using hj), setP_in hi] at a2
    refine qq _ _ a2 (fun c hc => ?_) (by simp) (fun j' hj' => ?_)
    · rcases set_keep (i := i) hc with z | z
      · rcases set_keep (i := j) z with z | z
        · exact .inl z
        · refine .inr ⟨j, by simp, ?_⟩
          by_cases e : i = j
          · subst e
            exact absurd z (set_none _)
          · rwa [List.getElem?_set_ne e] at z
      · exact .inr ⟨i, by simp, z⟩
    · rw [List.getElem?_set_ne (fun z => hj' (by simp [z])), List.getElem?_set_ne (fun z => hj' (by simp [z]))]⟩
/-! ### comprehensions -/
/-- the own names' slots forgotten -/
def wipeE (env : List Sl) : List Nat → List Sl
  | [] => env
  | i :: is => (wipeE env is).set i .no
theorem wipeE_len (env : List Sl) : ∀ is, (wipeE env is).length = env.length
  | [] => rfl
  | i :: is => by rw [wipeE, List.length_set, wipeE_len env is]
/-- the slots hold nothing owned -/
def plainAt (env : List Sl) (own : List Nat) : Bool := own.all fun i => match env[i]? with
  | some .no => true
  | some (.v _) => true
  | _ => false
theorem plain_at (a : At Γ.en L H0 P env σ H) {own : List Nat} (h : plainAt env own = true) : ∀ i ∈ own, ∀ p, P[i]? ≠ some (some p) := fun i hi p => by
  have h1 := List.all_eq_true.mp h i hi
  cases e : env[i]? with
  | none => rw [e] at h1; cases h1
  | some s =>
    have h2 := a.sl i s e
    rw [e] at h1
    cases s with
    | no => exact h2 p
    | v d => obtain ⟨_, _, _, h3⟩ := h2; exact h3 p
    | _ => cases h1
theorem At.wipe (a : At Γ.en L H0 P env σ H) : ∀ is, (∀ i ∈ is, ∀ p, P[i]? ≠ some (some p)) → At Γ.en L H0 P (wipeE env is) (wipe σ is) H
  | [], _ => a
  | i :: is, hn => by
    have a1 := At.wipe a is fun j hj => hn j (List.mem_cons_of_mem _ hj)
    refine ⟨a1.ex, by rw [wipeE_len, wipe_length]; exact a.ls, by rw [wipeE_len]; exact a.lp, by rw [wipeE_len]; exact a.xt, a1.nd, a1.tr, fun j s hs => ?_⟩
    show SlOk Γ.en P H j ((L2.wipe σ is).set i none)[j]? s
    unfold wipeE at hs
    by_cases e : i = j
    · subst e
      rw [List.getElem?_set] at hs
      simp only [if_true] at hs
      split at hs
      · cases hs
        exact hn _ List.mem_cons_self
      · cases hs
    · rw [List.getElem?_set_ne e] at hs
      rw [List.getElem?_set_ne e]
      exact a1.sl j s hs
theorem wipe_eq {σ' : St} {is : List Nat} (hl : σ'.length = σ.length) (h : ∀ j, j ∉ ix → σ'[j]? = (wipe σ is)[j]?) (hs : ∀ j ∈ ix, j ∈ is) : wipe σ' is = wipe σ is := by
  apply List.ext_getElem?
  intro j
  by_cases hj : j ∈ is
  · have key : ∀ (τ : St) (l : List Nat), j ∈ l → (wipe τ l)[j]? = if j < τ.length then some none else none := by
      intro τ l
      induction l with
      | nil => intro h; cases h
      | cons k l ih =>
        intro h
        unfold wipe
        rw [List.getElem?_set]
        by_cases e : k = j
        · rw [if_pos e, wipe_length, ← e]
        · rw [if_neg e]
          rcases List.mem_cons.mp h with z | z
          · exact absurd z.symm e
          · exact ih z
    rw [key _ _ hj, key _ _ hj, hl]
  · rw [wipe_out hj, h j (fun z => hj (hs j z))]
/-- a comprehension's turns -/
inductive Comp (Γb : Ga) (put : List Sl → D → List Sl → Prop) (ifs : List Expr) (elt : Expr) (env : List Sl) : List D → List D → Prop
  | nil : Comp Γb put ifs elt env [] []
  | take0 {d x : D} {ds rs : List D} {e1 : List Sl} : ifs = [] → put env d e1 → XE Γb elt e1 x → Comp Γb put ifs elt env ds rs → Comp Γb put ifs elt env (d :: ds) (x :: rs)
  | take {c : Expr} {d x : D} {ds rs : List D} {e1 : List Sl} : ifs = [c] → put env d e1 → XT Γb c e1 true → XE Γb elt e1 x → Comp Γb put ifs elt env ds rs → Comp Γb put ifs elt env (d :: ds) (x :: rs)
  | skip {c : Expr} {d : D} {ds rs : List D} {e1 : List Sl} : ifs = [c] → put env d e1 → XT Γb c e1 false → Comp Γb put ifs elt env ds rs → Comp Γb put ifs elt env (d :: ds) rs
theorem Comp.len {Γb : Ga} {ifs : List Expr} {elt : Expr} {env : List Sl} : ∀ {ds rs : List D}, Comp Γb put ifs elt env ds rs → rs.length ≤ ds.length := by
  intro ds rs h
  induction h with
  | nil => exact Nat.le_refl _
  | take0 _ _ _ _ ih => simp only [List.length_cons]; omega
  | take _ _ _ _ _ ih => simp only [List.length_cons]; omega
  | skip _ _ _ _ ih => simp only [List.length_cons]; omega
def tIfs (Γb : Ga) : List Expr → TT
  | [c] => rT Γb c
  | _ => tYes
theorem pts_r {Γb : Ga} {r : Rt} (o : r.Ok Γb) {ifs : List Expr} (h : ifs.length ≤ 1) : PTs (Γb.cx r) ifs (tIfs Γb ifs) := by
  match ifs, h with
  | [], _ => exact pts_nil
  | [c], _ => exact pts_one (pt_r o)
/-- the context of a block -/
theorem blk_ok {r : Rt} (o : r.Ok Γ) (scope : Scope) (s : Shared) (H : Hp) (C : Addr) (cl : List (Str × Addr)) (fp : List Addr) :
    ∃ r' : Rt, r'.Ok (Γ.blk scope) ∧ (Γ.cx r).blk s H scope (compEnvC scope cl C (Γ.cx r).env) fp = (Γ.blk scope).cx r' :=
  ⟨⟨r.A, s, H, compEnvC scope cl C (Γ.cx r).env, r.stack, r.stack, fp, fun x => scope.names.lookup x == some .cell, []⟩, ⟨o.room, fun h => by cases h⟩, rfl⟩
/-- a list that others must not see -/
theorem At.hide {p : Addr} {o : HO} (a : At Γ.en L H0 P env σ H) (hp : H p = none) : At Γ.en (L ++ [some p]) H0 (P ++ [some p]) env σ (upd H p o) := by
  have fr := fresh_hid hp a.tr
  have e1 : Ex (hid P H) (hid (P ++ [some p]) (upd H p o)) := fun c u h => by
    obtain ⟨h1, h2⟩ := hid_some.mp h
    have hc := ne_of_none h2 hp
    exact hid_some.mpr ⟨fun z => (List.mem_append.mp z).elim h1 fun z => hc (by simpa using z), by rw [upd_ne hc]; exact h2⟩
  have e2 := Ex.new (o := o) hp
  refine ⟨a.ex.trans (fun c u z => by
    obtain ⟨z1 | z1, z2⟩ := vis_some.mp z
    · exact vis_some.mpr ⟨.inl (List.mem_append_left _ z1), e2 _ _ z2⟩
    · have := hid_some.mp (e1 c u (hid_some.mpr ⟨z1, z2⟩))
      exact vis_some.mpr ⟨.inr this.1, this.2⟩), a.ls, by have := a.lp; simp; omega, by rw [List.drop_append_of_le_length a.lp, a.xt], fun i j q h1 h2 => ?_, fun q hq => ?_, fun i s hs => ?_⟩
  · by_cases c1 : i < P.length <;> by_cases c2 : j < P.length
    · rw [List.getElem?_append_left c1] at h1
      rw [List.getElem?_append_left c2] at h2
      exact a.nd i j q h1 h2
    · rw [List.getElem?_append_left c1] at h1
      rw [List.getElem?_append_right (by omega)] at h2
      have : q = p := by
        have := List.mem_of_getElem? h2
        simpa using this
      subst this
      exact absurd (List.mem_of_getElem? h1) fr
    · rw [List.getElem?_append_right (by omega)] at h1
      rw [List.getElem?_append_left c2] at h2
      have : q = p := by
        have := List.mem_of_getElem? h1
        simpa using this
      subst this
      exact absurd (List.mem_of_getElem? h2) fr
    · have l1 := (List.getElem?_eq_some_iff.mp h1).1
      have l2 := (List.getElem?_eq_some_iff.mp h2).1
      simp at l1 l2
      omega
  · rcases List.mem_append.mp hq with z | z
    · obtain ⟨u, hu⟩ := a.tr q z
      exact ⟨u, e2 _ _ hu⟩
    · have : q = p := by simpa using z
      subst this
      exact ⟨o, upd_same⟩
  · have hi : i < P.length := by have := (List.getElem?_eq_some_iff.mp hs).1; have := a.lp; omega
    have q : (P ++ [some p])[i]? = P[i]? := List.getElem?_append_left hi
    have h := a.sl i s hs
    cases s with
    | no => exact fun p z => h p (q.symm.trans z)
    | v d => obtain ⟨x, h1, h2, h3⟩ := h; exact ⟨x, h1, h2.mono e1, fun p z => h3 p (q.symm.trans z)⟩
    | ol ds => obtain ⟨p, vs, h1, h2, h3, h4⟩ := h; exact ⟨p, vs, h1, q.trans h2, e2 _ _ h3, h4.mono e1⟩
    | ok ds => obtain ⟨p, vs, h1, h2, h3, h4⟩ := h; exact ⟨p, vs, h1, q.trans h2, e2 _ _ h3, h4.mono e1⟩
    | oi p dx c ds => obtain ⟨vs, h1, h2, h3, h5, h4⟩ := h; exact ⟨vs, h1, q.trans h2, e2 _ _ h3, h5, h4.mono e1⟩
/-- the hidden list changes -/
theorem At.turn {p : Addr} {o : HO} (a : At Γ.en L H0 P env σ H) (h0 : H0 p = none) (hp : some p ∈ P) (hn : ∀ i, i < env.length → P[i]? ≠ some (some p)) : At Γ.en L H0 P env σ (upd H p o) := by
  have e : hid P (upd H p o) = hid P H := hid_upd hp
  refine ⟨fun c u z => by
    have hc : c ≠ p := by rintro rfl; rw [h0] at z; cases z
    have := vis_some.mp (a.ex c u z)
    exact vis_some.mpr ⟨this.1, by rw [upd_ne hc]; exact this.2⟩, a.ls, a.lp, a.xt, a.nd, fun q hq => ?_, fun i s hs => ?_⟩
  · by_cases c : q = p
    · subst c; exact ⟨o, upd_same⟩
    · obtain ⟨u, hu⟩ := a.tr q hq
      exact ⟨u, by rw [upd_ne c]; exact hu⟩
  · have hi : i < env.length := (List.getElem?_eq_some_iff.mp hs).1
    have h := a.sl i s hs
    have ne : ∀ q, P[i]? = some (some q) → (upd H p o) q = H q := fun q hq => upd_ne fun z => hn i hi (by rw [hq, z])
    cases s with
    | no => exact h
    | v d => obtain ⟨x, h1, h2, h3⟩ := h; exact ⟨x, h1, by rw [e]; exact h2, h3⟩
    | ol ds => obtain ⟨p, vs, h1, h2, h3, h4⟩ := h; exact ⟨p, vs, h1, h2, by rw [ne p h2]; exact h3, by rw [e]; exact h4⟩
    | ok ds => obtain ⟨p, vs, h1, h2, h3, h4⟩ := h; exact ⟨p, vs, h1, h2, by rw [ne p h2]; exact h3, by rw [e]; exact h4⟩
    | oi p dx c ds => obtain ⟨vs, h1, h2, h3, h5, h4⟩ := h; exact ⟨vs, h1, h2, by rw [ne p h2]; exact h3, h5, by rw [e]; exact h4⟩
/-- the reading of a comprehension -/
theorem lc_read {wi : TI} {scope : Scope} {own : List Nat} {ifs : List Expr} {elt : Expr} {g : TG} {rs : List D} {Q : VK}
    (hi : ∀ R, (∀ J H1, Ex H H1 → WalkD Γ.en (hid P H1) J ds → R J H1) → wi σ H R)
    (hg : ∀ H0 L P env env' σ H d v, At Γ.en L H0 P env σ H → Den Γ.en (hid P H) d v → put env d env' → ∀ Q, (∀ P' σ', At Γ.en L H0 P' env' σ' H → (∀ a, some a ∈ P → some a ∈ P' ∨ ∃ j ∈ ix, P[j]? = some (some a)) → σ'.length = σ.length → (∀ j, j ∉ ix → σ'[j]? = σ[j]?) → Q σ' H) → g v σ H Q)
    (hx : ∀ j ∈ ix, j ∈ own) (hpl : plainAt env own = true) (hix : ∀ j ∈ own, j < env.length) (hz : ds.length < 16777216) (hc : Comp (Γ.blk scope) put ifs elt (wipeE env own) ds rs) (at0 : At Γ.en L H0 P env σ H) (q : ∀ v H', Ex H H' → Den Γ.en (hid P H') (.l rs) v → Q v H') :
    tLc wi g (tIfs (Γ.blk scope) ifs) (rE (Γ.blk scope) elt) own σ H Q := by
  refine hi _ fun J H1 e1 w Dl hD => ?_
  have pl := plain_at at0 hpl
  have a1 : At Γ.en (L ++ [some Dl]) H0 (P ++ [some Dl]) (wipeE env own) (wipe σ own) (upd H1 Dl (.lst [])) := ((at0.grow e1).wipe own pl).hide hD
  have hlp := at0.lp
  refine lc_it w (fun i H' => ∃ acc done rest, H' Dl = some (.lst acc) ∧ DenL Γ.en (hid (P ++ [some Dl]) H') done acc ∧ Comp (Γ.blk scope) put ifs elt (wipeE env own) (ds.drop i) rest ∧ rs = done ++ rest ∧ Ex H1 H' ∧ done.length ≤ i ∧ At Γ.en (L ++ [some Dl]) H0 (P ++ [some Dl]) (wipeE env own) (wipe σ own) H')
    ⟨[], [], rs, upd_same, DenL.nil, by simpa using hc, rfl, Ex.new hD, Nat.le_refl _, a1⟩ (fun i H' _ ⟨_, _, _, _, _, _, _, e, _⟩ => (hid_sub (P := P)).trans e) ?_ ?_
  · rintro i x Ha Hc hi' ⟨acc, done, rest, h1, h2, h3, h4, h5, h6, h7⟩ y
    obtain ⟨d, hd, y⟩ := y
    have hdrop : ds.drop i = d :: ds.drop (i + 1) := by
      rw [List.drop_eq_getElem_cons hi']
      rw [List.getElem?_eq_getElem hi'] at hd
      rw [Option.some.inj hd]
    rw [hdrop] at h3
    have e5 : Ex (hid P H1) (hid (P ++ [some Dl]) Ha) := fun c u hc => by
      obtain ⟨z1, z2⟩ := hid_some.mp hc
      refine hid_some.mpr ⟨fun z => ?_, h5 _ _ z2⟩
      rcases List.mem_append.mp z with z | z
      · exact z1 z
      · have e : c = Dl := by simpa using z
        rw [e, hD] at z2
        cases z2
    obtain ⟨eac, dn⟩ : Ex Ha Hc ∧ Den Γ.en (hid (P ++ [some Dl]) Hc) d x := by
      obtain ⟨rfl, h⟩ | ⟨T, vs, es, rfl, hT, rfl, rfl, h⟩ := y
      · exact ⟨Ex.refl _, h.mono e5⟩
      · exact ⟨Ex.new hT, den_tup hT h7.tr (h.mono e5)⟩
    have h7c := h7.grow eac
    have nslot : ∀ k, k < (wipeE env own).length → (P ++ [some Dl])[k]? ≠ some (some Dl) := fun k hk z => by
      rw [wipeE_len] at hk
      rw [List.getElem?_append_left (by omega)] at z
      exact fresh_hid hD (at0.grow e1).tr (List.mem_of_getElem? z)
    have memD : some Dl ∈ P ++ [some Dl] := by simp
    have keep : ∀ {P' : List (Option Addr)} {H4 : Hp}, (∀ a, some a ∈ P ++ [some Dl] → some a ∈ P' ∨ ∃ j ∈ ix, (P ++ [some Dl])[j]? = some (some a)) → Ex (hid P' H4) (hid (P ++ [some Dl]) H4) := fun {P' H4} k => hid_less fun a ha => (k a ha).elim id fun ⟨j, hj, z⟩ => by
      rw [List.getElem?_append_left (by have := hix j (hx j hj); omega)] at z
      exact absurd z (pl j (hx j hj) a)
    have step : ∀ {H4 : Hp} {y : V} {x' : D} {rest' : List D}, rest = x' :: rest' → Ex Hc H4 → Den Γ.en (hid (P ++ [some Dl]) H4) x' y → Comp (Γ.blk scope) put ifs elt (wipeE env own) (ds.drop (i + 1)) rest' → ∃ acc', H4 Dl = some (.lst acc') ∧ acc'.length < sizeLine ∧
        ∃ acc2 done2 rest2, (upd H4 Dl (.lst (acc' ++ [y]))) Dl = some (.lst acc2) ∧ DenL Γ.en (hid (P ++ [some Dl]) (upd H4 Dl (.lst (acc' ++ [y])))) done2 acc2 ∧ Comp (Γ.blk scope) put ifs elt (wipeE env own) (ds.drop (i + 1)) rest2 ∧ rs = done2 ++ rest2 ∧ Ex H1 (upd H4 Dl (.lst (acc' ++ [y]))) ∧ done2.length ≤ i + 1 ∧ At Γ.en (L ++ [some Dl]) H0 (P ++ [some Dl]) (wipeE env own) (wipe σ own) (upd H4 Dl (.lst (acc' ++ [y]))) := fun {H4 y x' rest'} er e4 d4 c4 => by
      have el : acc.length = done.length := h2.len
      refine ⟨acc, e4 _ _ (eac _ _ h1), (by rw [el, sizeLine_eq]; omega), acc ++ [y], done ++ [x'], rest', upd_same, ?_, c4, by rw [h4, er]; simp, ?_, by simp; omega, (h7c.grow e4).turn (Evl.fresh_back ((at0.grow e1).ex.trans vis_sub) hD) memD nslot⟩
      · rw [hid_upd memD]
        exact (h2.mono (hid_mono (eac.trans e4))).append (d4.cons DenL.nil)
      · exact Evl.Ex.mut (h5.trans (eac.trans e4)) hD
    have no : ∀ {H4 : Hp}, Ex Hc H4 → Comp (Γ.blk scope) put ifs elt (wipeE env own) (ds.drop (i + 1)) rest → ∃ acc2 done2 rest2, H4 Dl = some (.lst acc2) ∧ DenL Γ.en (hid (P ++ [some Dl]) H4) done2 acc2 ∧ Comp (Γ.blk scope) put ifs elt (wipeE env own) (ds.drop (i + 1)) rest2 ∧ rs = done2 ++ rest2 ∧ Ex H1 H4 ∧ done2.length ≤ i + 1 ∧ At Γ.en (L ++ [some Dl]) H0 (P ++ [some Dl]) (wipeE env own) (wipe σ own) H4 := fun {H4} e4 c4 =>
      ⟨acc, done, rest, e4 _ _ (eac _ _ h1), h2.mono (hid_mono (eac.trans e4)), c4, h4, h5.trans (eac.trans e4), by omega, h7c.grow e4⟩
    cases h3 with
    | take0 hi0 hp hx' hc2 =>
      refine hg _ _ _ _ _ _ _ _ _ h7c dn hp _ fun P' σ' a' k l1 l2 => ⟨wipe_eq (by rw [l1, wipe_length]) l2 hx, ?_⟩
      subst hi0
      show rE (Γ.blk scope) elt σ' Hc _
      exact ⟨_, _, _, _, _, hx', a', fun y H4 e4 d4 => step rfl e4 (d4.mono (keep k)) hc2⟩
    | take hi0 hp ht hx' hc2 =>
      refine hg _ _ _ _ _ _ _ _ _ h7c dn hp _ fun P' σ' a' k l1 l2 => ⟨wipe_eq (by rw [l1, wipe_length]) l2 hx, ?_⟩
      subst hi0
      show rT (Γ.blk scope) _ σ' Hc _
      refine ⟨_, _, _, _, _, ht, a', fun H3 e3 => ?_⟩
      show rE (Γ.blk scope) elt σ' H3 _
      exact ⟨_, _, _, _, _, hx', At.grow a' e3, fun y H4 e4 d4 => step rfl (e3.trans e4) (d4.mono (keep k)) hc2⟩
    | skip hi0 hp ht hc2 =>
      refine hg _ _ _ _ _ _ _ _ _ h7c dn hp _ fun P' σ' a' k l1 l2 => ⟨wipe_eq (by rw [l1, wipe_length]) l2 hx, ?_⟩
      subst hi0
      show rT (Γ.blk scope) _ σ' Hc _
      refine ⟨_, _, _, _, _, ht, a', fun H3 e3 => ?_⟩
      exact no e3 hc2
  · rintro H' ⟨acc, done, rest, h1, h2, h3, rfl, h5, h6, h7⟩
    rw [List.drop_length] at h3
    cases h3
    refine q _ H' (e1.trans h5) ?_
    simp only [Den]
    refine ⟨Dl, acc, rfl, hid_some.mpr ⟨fresh_hid hD (at0.grow e1).tr, h1⟩, ?_⟩
    rw [List.append_nil]
    exact h2.mono (hid_less fun a ha => List.mem_append_left _ ha)
/-- what a comprehension needs of the text -/
structure Lc (Γ : Ga) (scope : Scope) (own : List (Str × Nat)) (ix : List Nat) (env : List Sl) (ifs : List Expr) : Prop where
  ok : BlkOk Γ.N Γ.sc scope own
  nd : Γ.N.Nodup
  ix : ∀ j ∈ ix, j ∈ own.map (·.2)
  pl : plainAt env (own.map (·.2)) = true
  sh : ∀ j ∈ own.map (·.2), j < env.length
  one : ifs.length ≤ 1
theorem xe_lc {elt : Expr} {ifs : List Expr} {scope : Scope} {own : List (Str × Nat)} {pos : Pos} {rs : List D} (hL : Lc Γ scope own ix env ifs) (hi : XI Γ tg iter env ds) (hg : XG (Γ.blk scope) tg ix put) (hz : ds.length < 16777216)
    (hc : Comp (Γ.blk scope) put ifs elt (wipeE env (own.map (·.2))) ds rs) (hs : ∀ (ev : Env) x, foldedSetIterable iter ev x = pure x := by intro _ _; rfl) : XE Γ (.ListComp elt [⟨tg, iter, ifs, 0⟩] scope pos) env (.l rs) := xe_of fun r o => by
  obtain ⟨wi, hi1, hi2⟩ := hi
  obtain ⟨g, hg1, hg2⟩ := hg
  refine ⟨_, pe_lc (X := Γ.cx r) (own := own) (g := g) (tt := tIfs (Γ.blk scope) ifs) (te := rE (Γ.blk scope) elt) rfl hL.nd (hi1 r o) hL.ok (fun s H C cl fp => ?_) (fun s H C cl fp => ?_) (fun s H C cl fp => ?_) (hs _), fun σ H H0 L P Q at0 q => lc_read (fun R => hi2 H0 L P σ H R at0) hg2 hL.ix hL.pl hL.sh hz hc at0 q⟩
  · obtain ⟨r', o', e⟩ := blk_ok o scope s H C cl fp
    rw [e]; exact hg1 r' o'
  · obtain ⟨r', o', e⟩ := blk_ok o scope s H C cl fp
    rw [e]; exact pts_r o' hL.one
  · obtain ⟨r', o', e⟩ := blk_ok o scope s H C cl fp
    rw [e]; exact pe_r o'
/-- y = [..] on one line, y a local -/
theorem xs_setLc (i : Nat) {y : Str} {py spos : Pos} {elt : Expr} {ifs : List Expr} {scope : Scope} {own : List (Str × Nat)} {pos : Pos} {rs : List D} (hL : Lc Γ scope own ix env ifs) (hy : Γ.N[i]? = some y) (hl : Γ.sc.names.lookup y = some .local)
    (hw : ∀ ev : Env, swapsWith (.ListComp elt [⟨tg, iter, ifs, 0⟩] scope pos) (some (.Name y py)) spos.line { ev with scope := Γ.sc } = pure true) (hi : XI Γ tg iter env ds) (hg : XG (Γ.blk scope) tg ix put) (hz : ds.length < 16777216)
    (hc : Comp (Γ.blk scope) put ifs elt (wipeE env (own.map (·.2))) ds rs) (hs : ∀ (ev : Env) x, foldedSetIterable iter ev x = pure x := by intro _ _; rfl) : XS Γ (.Assign [.Name y py] (.ListComp elt [⟨tg, iter, ifs, 0⟩] scope pos) spos) env (.nx (env.set i (.v (.l rs)))) := xs_of fun r o => by
  obtain ⟨wi, hi1, hi2⟩ := hi
  obtain ⟨g, hg1, hg2⟩ := hg
  refine ⟨_, ps_setLc (X := Γ.cx r) (i := i) (own := own) (g := g) (tt := tIfs (Γ.blk scope) ifs) (te := rE (Γ.blk scope) elt) rfl hL.nd hy hl (hw r.env) (hi1 r o) hL.ok (fun s H C cl fp => ?_) (fun s H C cl fp => ?_) (fun s H C cl fp => ?_) (hs _), fun σ H H0 L P Dn at0 q => lc_read (fun R => hi2 H0 L P σ H R at0) hg2 hL.ix hL.pl hL.sh hz hc at0 fun v H1 e1 h1 => q _ _ _ ((at0.grow e1).setv h1)⟩
  · obtain ⟨r', o', e⟩ := blk_ok o scope s H C cl fp
    rw [e]; exact hg1 r' o'
  · obtain ⟨r', o', e⟩ := blk_ok o scope s H C cl fp
    rw [e]; exact pts_r o' hL.one
  · obtain ⟨r', o', e⟩ := blk_ok o scope s H C cl fp
    rw [e]; exact pe_r o'
end
end Q8
/-! zip of two texts, enumerate of a tuple. -/
namespace Q8
open PySem PySem.Spec PyProof.Rows L2
def ItzS (x y : Str) : It :=
  ⟨fun i _ => i < min x.cps.size y.cps.size,
    fun i H v H' => ∃ T c d, v = .ref T ∧ H T = none ∧ H' = upd H T (.tup [.str ⟨#[c]⟩, .str ⟨#[d]⟩]) ∧ x.cps[i]? = some c ∧ y.cps[i]? = some d,
    fun i _ => i = min x.cps.size y.cps.size⟩
theorem strIter_ty (x : Str) : strIterType x = "str_ascii_iterator" ∨ strIterType x = "str_iterator" := by
  unfold strIterType
  split
  · exact .inl rfl
  · exact .inr rfl
theorem turn_zipS {P : Program} {w : World} {K : PySem.W.Frag} {elts : List Expr} {kk : Nat} {tpos : Pos} {N : Nat} {x y : Str} {t u : Tok} :
    Turn P w K (.Tuple elts kk tpos) (ItzS x y) [N + 4, N + 2, N + 3, N, N + 1] (N + 4) (fun i h => IsZip h (N + 4) (N + 2) (N + 3) .none ∧ IsTupOf2 h (N + 2) (.ref N) (.ref (N + 1)) ∧ (∃ a1 a2, IsTupOf2 h (N + 3) a1 a2) ∧ h.IsStrIter N (strIterType x) x t i ∧ h.IsStrIter (N + 1) (strIterType y) y u i) where
  mem := by simp
  obj := fun i h st c hc => by
    obtain ⟨hz, hTI, ⟨x, y, hTO⟩, ⟨o1, e1, _, d1⟩, ⟨o2, e2, _, d2⟩⟩ := st
    have e' : c = N + 4 ∨ c = N + 2 ∨ c = N + 3 ∨ c = N ∨ c = N + 1 := by simpa using hc
    rcases e' with q | q | q | q | q
    · rw [q]; exact ⟨_, hz, fun v q => nomatch q⟩
    · rw [q]; exact ⟨_, hTI, fun v q => nomatch q⟩
    · rw [q]; exact ⟨_, hTO, fun v q => nomatch q⟩
    · rw [q]; exact ⟨o1, e1, fun v q => by rw [d1] at q; cases q⟩
    · rw [q]; exact ⟨o2, e2, fun v q => by rw [d2] at q; cases q⟩
  keep := fun i h h' st k => by
    obtain ⟨hz, hTI, ⟨x, y, hTO⟩, ⟨o1, e1, r1⟩, ⟨o2, e2, r2⟩⟩ := st
    exact ⟨k (N + 4) (by simp) _ hz, k (N + 2) (by simp) _ hTI, ⟨x, y, k (N + 3) (by simp) _ hTO⟩, ⟨o1, k N (by simp) _ e1, r1⟩, ⟨o2, k (N + 1) (by simp) _ e2, r2⟩⟩
  item := by
    intro X hP hw hK hc i pins s σ H E I hf st hg
    subst hP hw hK
    have hh : X.A.in1.handled = none := I.ok.hd hc
    have S : ZipSep2 (N + 4) (N + 2) (N + 3) N (N + 1) [N] [N + 1] := zip_sep2 (fp1 := []) (fp2 := []) (fun b hb => by cases hb) (fun b hb => by cases hb)
    have W := GoesN.zip2 (prog := X.prog) (w := X.w) (A := X.A) (elts := elts) (x1 := kk) (pos := tpos) S (Draws.text hh N x t) (Draws.text hh (N + 1) y u)
    refine W.goes i s _ _ hg st fun v h' tk hY st' hk htk => ?_
    obtain ⟨T, v1, v2, rfl, hnew, ⟨c, u1, hc1, rfl⟩, ⟨d, u2, hd1, rfl⟩, hT⟩ := hY
    have hTn : H T = none := I.hok.fresh hnew
    have new : ObjOk X.prog X.w (upd H T (.tup [.str ⟨#[c]⟩, .str ⟨#[d]⟩])) h' T (.tup [.str ⟨#[c]⟩, .str ⟨#[d]⟩]) :=
      ⟨by show 2 ≤ sizeLine; decide, [.str ⟨#[c]⟩ u1, .str ⟨#[d]⟩ u2], .cons ⟨_, rfl⟩ (.cons ⟨_, rfl⟩ .nil), hT⟩
    have I1 : Inv X pins σ (upd H T (.tup [.str ⟨#[c]⟩, .str ⟨#[d]⟩])) { s with heap := h', toks := tk } :=
      I.turnedNew (ch := [N + 4, N + 2, N + 3, N, N + 1]) (fun c o hb q => hk c o (fun q' => hb (by simp at q' ⊢; rcases q' with z | z | z | z <;> simp [z])) q) hf hnew new
    refine ⟨.ref T, _, I1, rfl, ⟨T, c, d, rfl, hTn, rfl, hc1, hd1⟩, st', fun b hb => ?_⟩
    rw [upd_ne]
    · exact (hf b hb).1
    · rintro rfl
      obtain ⟨hz, hTI, ⟨_, _, hTO⟩, ⟨o1, e1, _⟩, ⟨o2, e2, _⟩⟩ := st
      have e' : b = N + 4 ∨ b = N + 2 ∨ b = N + 3 ∨ b = N ∨ b = N + 1 := by simpa using hb
      have hlt : b < s.heap.objs.size := by
        rcases e' with q | q | q | q | q
        · rw [q]; exact Heap.lt_size hz
        · rw [q]; exact Heap.lt_size hTI
        · rw [q]; exact Heap.lt_size hTO
        · rw [q]; exact Heap.lt_size e1
        · rw [q]; exact Heap.lt_size e2
      exact absurd hlt (Nat.not_lt.mpr hnew)
  done := by
    intro X hP hw hK hc i pins s σ H E I hf st hg
    subst hP hw hK
    have hh : X.A.in1.handled = none := I.ok.hd hc
    have S : ZipSep2 (N + 4) (N + 2) (N + 3) N (N + 1) [N] [N + 1] := zip_sep2 (fp1 := []) (fp2 := []) (fun b hb => by cases hb) (fun b hb => by cases hb)
    have W := GoesN.zip2 (prog := X.prog) (w := X.w) (A := X.A) (elts := elts) (x1 := kk) (pos := tpos) S (Draws.text hh N x t) (Draws.text hh (N + 1) y u)
    have e : i = min x.cps.size y.cps.size := hg
    subst e
    exact W.stops s _ _ st fun h' tk hk htk => I.turnedL (ch := [N + 4, N + 2, N + 3, N, N + 1]) (fun c o hb q => hk c o (fun q' => hb (by simp at q' ⊢; rcases q' with z | z | z | z <;> simp [z])) q) hf
  self := fun A i s Q E st h => wpAny_pyIter_zip st.1 h
def iZipS (ta : TA) : TI := fun σ H R => ta σ H fun vs H1 => ∃ x y, vs = [.str x, .str y] ∧ R (ItzS x y) H1
theorem pi_zipS {X : Cx} {e e2 : Expr} {ta : TA} {p pos tpos : Pos} {elts : List Expr} {kk : Nat} (hg : Gl X "zip") (hm : X.mg "zip" = none) (ha : PA X [e, e2] ta)
    (hs : starEach [e, e2] X.env = (false, eval e X.env) :: starEach [e2] X.env := by rfl) (hpl : (backTo pos (starEach [e2] X.env)).any (·.1) = false := by rfl) :
    PI X (.Tuple elts kk tpos) (.Call (.Name "zip" p) [e, e2] [] pos) (iZipS ta) := by
  refine ⟨fun pins s σ H R I h => ?_⟩
  refine Call_ (ld_blt I hg hm PyProof.Rows.boot_zip (PyProof.Rows.callWith_type1 (thn (ha.run pos pins s σ H _ I h) fun us s1 ⟨vs, H1, I1, r1, q1⟩ => ?_) hs hpl))
  obtain ⟨x, y, ex, q1⟩ := q1
  subst ex
  cases r1 with
  | cons r rr =>
    cases rr with
    | cons r' rr =>
      cases rr
      obtain ⟨t, rfl⟩ := r
      obtain ⟨u, rfl⟩ := r'
      have fresh5 : ∀ c, c ∈ [s1.heap.objs.size + 4, s1.heap.objs.size + 2, s1.heap.objs.size + 3, s1.heap.objs.size, s1.heap.objs.size + 1] → FpOk X pins H1 c := fun c hcm => by
        have e' : c = s1.heap.objs.size + 4 ∨ c = s1.heap.objs.size + 2 ∨ c = s1.heap.objs.size + 3 ∨ c = s1.heap.objs.size ∨ c = s1.heap.objs.size + 1 := by simpa using hcm
        have hle : s1.heap.objs.size ≤ c := by
          rcases e' with z | z | z | z | z
          · rw [z]; exact Nat.le_add_right _ _
          · rw [z]; exact Nat.le_add_right _ _
          · rw [z]; exact Nat.le_add_right _ _
          · rw [z]; exact Nat.le_refl _
          · rw [z]; exact Nat.le_add_right _ _
        exact I1.fpOk hle (I1.hok.fresh hle)
      refine zip_begins2 (begins_text x t) (begins_text y u) trivial trivial fun h' hz hTI hTO g1 g2 hsz hk => wpAny_pyIter_zip hz ?_
      have I2 : Inv X pins σ H1 { s1 with heap := h' } := I1.kept (t' := s1.toks) hk
      exact ⟨s1.heap.objs.size + 4, [s1.heap.objs.size + 4, s1.heap.objs.size + 2, s1.heap.objs.size + 3, s1.heap.objs.size, s1.heap.objs.size + 1], _, _, H1, rfl, I2, turn_zipS (N := s1.heap.objs.size) (x := x) (y := y) (t := t) (u := u),
        ⟨hz, hTI, ⟨_, _, hTO⟩, ⟨_, g1, rfl, rfl⟩, ⟨_, g2, rfl, rfl⟩⟩, fresh5, q1⟩
theorem walk_zipS {x y : Str} : Walk (ItzS x y) (min x.cps.size y.cps.size) (fun _ => True) (YPair (fun i => (x.cps[i]?).map fun c => .str ⟨#[c]⟩) (fun i => (y.cps[i]?).map fun c => .str ⟨#[c]⟩)) :=
  ⟨fun i _ hi _ => hi, fun _ _ => rfl, fun i H v H' _ _ ⟨T, c, d, h1, h2, h3, h4, h5⟩ => ⟨T, _, _, h1, h2, h3, by simp [h4], by simp [h5]⟩⟩
/-! ### enumerate of a tuple -/
def IteT (K : PySem.W.Frag) (a : Addr) : It :=
  ⟨fun i H => ∃ (xs : List V) (x : V), SqT K H a xs ∧ xs[i]? = some x, fun i H v H' => ∃ T x, v = .ref T ∧ H T = none ∧ H' = upd H T (.tup [.int (i : Nat), x]) ∧ ∀ xs, SqT K H a xs → xs[i]? = some x, fun i H => ∃ xs : List V, SqT K H a xs ∧ xs.length = i⟩
theorem turn_enumT {P : Program} {w : World} {K : PySem.W.Frag} {elts : List Expr} {kk : Nat} {tpos : Pos} (a e it : Addr) (hne : e ≠ it) (hea : e ≠ a) (hta : a ≠ it) :
    Turn P w K (.Tuple elts kk tpos) (IteT K a) [e, it] e (fun i h => (∃ old, IsEnum h e it ((0 : Int) + (i : Nat)) old) ∧ h.IsTupleIter it a i) where
  mem := by simp
  obj := fun i h st b hb => by
    obtain ⟨⟨old, he⟩, ⟨o, ho, hc, hd⟩⟩ := st
    have e' : b = e ∨ b = it := by simpa using hb
    rcases e' with z | z
    · rw [z]; exact ⟨_, he, fun v q => nomatch q⟩
    · rw [z]; exact ⟨o, ho, fun v q => by rw [hd] at q; cases q⟩
  keep := fun i h h' st k => let ⟨⟨old, he⟩, hi⟩ := st; ⟨⟨old, k e (by simp) _ he⟩, hi.at fun o q => k it (by simp) o q⟩
  item := by
    intro X hP hw hK hc i pins s σ H E I hf st hg
    subst hP hw hK
    have hh : X.A.in1.handled = none := I.ok.hd hc
    obtain ⟨xs, x, hq, hx⟩ := hg
    obtain ⟨its, rv, p, hz⟩ := I.tuple hq
    obtain ⟨u, hu, ru⟩ := rv.get hx
    have W := GoesN.enumFrom (prog := X.prog) (w := X.w) (A := X.A) (elts := elts) (x1 := kk) (pos := tpos) 0 (Draws.tuple hh it a hta its.toArray) e hne (by simp; exact ⟨hne, hea⟩) (by simp)
    have hil : i < its.toArray.size := by
      have := (List.getElem?_eq_some_iff.mp hu).1
      simpa using this
    refine W.goes i s _ _ hil ⟨st.1, st.2, show s.heap.IsTuple a its.toArray from p⟩ fun v h' tk hY st' hk htk => ?_
    obtain ⟨T, t1, v1, rfl, hnew, hv1, hT⟩ := hY
    have ev : v1 = u := by
      have h1 : its[i]? = some v1 := by simpa using hv1
      rw [hu] at h1
      exact (Option.some.inj h1).symm
    subst ev
    have hTn : H T = none := I.hok.fresh hnew
    have new : ObjOk X.prog X.w (upd H T (.tup [.int (i : Nat), x])) h' T (.tup [.int (i : Nat), x]) :=
      ⟨by show 2 ≤ sizeLine; decide, [.int ((0 : Int) + (i : Nat)) t1, v1], .cons ⟨t1, by rw [Int.zero_add]⟩ (.cons ru .nil), hT⟩
    have I1 : Inv X pins σ (upd H T (.tup [.int (i : Nat), x])) { s with heap := h', toks := tk } :=
      I.turnedNew (ch := [e, it]) (fun c o hb q => hk c o hb q) hf hnew new
    refine ⟨.ref T, _, I1, rfl, ⟨T, x, rfl, hTn, rfl, fun ys hy => by rw [I.tuple_inj hy hq]; exact hx⟩, ⟨st'.1, st'.2.1⟩, fun b hb => ?_⟩
    rw [upd_ne]
    · exact (hf b hb).1
    · rintro rfl
      obtain ⟨⟨old, he⟩, ⟨o, ho, _⟩⟩ := st
      have e' : b = e ∨ b = it := by simpa using hb
      have hlt : b < s.heap.objs.size := by
        rcases e' with q | q
        · rw [q]; exact Heap.lt_size he
        · rw [q]; exact Heap.lt_size ho
      exact absurd hlt (Nat.not_lt.mpr hnew)
  done := by
    intro X hP hw hK hc i pins s σ H E I hf st hg
    subst hP hw hK
    have hh : X.A.in1.handled = none := I.ok.hd hc
    obtain ⟨xs, hq, hx⟩ := hg
    obtain ⟨its, rv, p, hz⟩ := I.tuple hq
    have W := GoesN.enumFrom (prog := X.prog) (w := X.w) (A := X.A) (elts := elts) (x1 := kk) (pos := tpos) 0 (Draws.tuple hh it a hta its.toArray) e hne (by simp; exact ⟨hne, hea⟩) (by simp)
    have ei : i = its.toArray.size := by
      have := rv.length
      simp only [List.size_toArray]
      omega
    subst ei
    exact W.stops s _ _ ⟨st.1, st.2, show s.heap.IsTuple a its.toArray from p⟩ fun h' tk hk htk => I.turnedL (ch := [e, it]) (fun c o hb q => hk c o hb q) hf
  self := fun _ i s Q E st h => let ⟨⟨old, he⟩, _⟩ := st; wpAny_pyIter_enum he h
set_option maxHeartbeats 1000000 in
theorem meets_enumerate_new1 {v : Value} {o : Obj} {H : Heap → Prop} (B : Begins v o H) :
    Meets (Builtin.«enumerate.__new__» ⟨[.type "enumerate", v], []⟩) (fun _ R s => H s.heap ∧
      R (.ok (.ret (.ref (s.heap.push o).objs.size))) { s with heap := (s.heap.push o).push { cls := .type "enumerate", data := .fields #[.none, .bool false, .ref s.heap.objs.size, rawInt 0, .none, .none] } }) :=
  .of_wp fun prog w A R s h => by
    obtain ⟨hp, g, d, tk, os⟩ := s; obtain ⟨h1, h⟩ := h
    have hsub := sub_enumerate
    have q1 : ∀ {A' : Around} {E : Value → Shared → Prop} {Q : Value → Shared → Prop}, Q (.ref hp.objs.size) ⟨hp.push o, g, d, tk, os⟩ → wpAny (model prog w) A' (pyIter v) Q E ⟨hp, g, d, tk, os⟩ :=
      fun q => B.iter prog w _ _ ⟨hp, g, d, tk, os⟩ _ h1 q
    wp_walk using q1
    refine wpAny_stack_any fun st => wpAny_pure ?_
    split
    · rename_i c _ _ _ _ _
      cases (c == Value.type "enumerate")
      · wp_walk using q1
        exact ⟨_, rfl, h⟩
      · wp_walk using q1
        exact ⟨_, rfl, h⟩
    · wp_walk using q1
      exact ⟨_, rfl, h⟩
theorem enum_begins1 {prog : Program} {w : World} {A : Around} {E : Value → Shared → Prop} {s : Shared} {v : Value} {o : Obj} {H : Heap → Prop} {Q : Value → Shared → Prop} (B : Begins v o H) (h1 : H s.heap)
    (h : ∀ h', IsEnum h' (s.heap.objs.size + 1) s.heap.objs.size 0 .none → h'.get? s.heap.objs.size = some o → h'.objs.size = s.heap.objs.size + 2 →
      (∀ b o, s.heap.get? b = some o → h'.get? b = some o) → Q (.ref (s.heap.objs.size + 1)) { s with heap := h' }) :
    wpAny (model prog w) A (PySem.call (.type "enumerate") [v]) Q E s := by
  refine callType_new F.called_enumerate (by decide) (F.typeCall_enumerate_1 _) (F.newCall_enumerate_1 _) (fun obj => F.args_object_init_2 obj _) F.entry_enumerate_new
    (meets_enumerate_new1 B) ⟨h1, ?_⟩
  have hz : (s.heap.push o).objs.size = s.heap.objs.size + 1 := Heap.size_push ..
  show _ ∧ _
  rw [hz]
  have he : IsEnum ((s.heap.push o).push { cls := .type "enumerate", data := .fields #[.none, .bool false, .ref s.heap.objs.size, rawInt 0, .none, .none] }) (s.heap.objs.size + 1) s.heap.objs.size 0 .none := by
    have := Heap.get?_push_size (s.heap.push o) (o := { cls := .type "enumerate", data := .fields #[.none, .bool false, .ref s.heap.objs.size, rawInt 0, .none, .none] }) rfl
    rw [hz] at this; exact this
  refine ⟨⟨_, he, rfl⟩, h _ he (Heap.get?_push_of_some _ (Heap.get?_push_size _ B.free)) (by rw [Heap.size_push, hz]) fun b o x => Heap.get?_push_of_some _ (Heap.get?_push_of_some _ x)⟩
def iEnumT (K : PySem.W.Frag) (ta : TA) : TI := fun σ H R => ta σ H fun vs H1 => ∃ a xs, vs = [.ref a] ∧ SqT K H1 a xs ∧ R (IteT K a) H1
theorem pi_enumT {X : Cx} {e : Expr} {ta : TA} {p pos tpos : Pos} {elts : List Expr} {kk : Nat} (hg : Gl X "enumerate") (hm : X.mg "enumerate" = none) (ha : PA X [e] ta) (hs : starEach [e] X.env = [(false, eval e X.env)] := by rfl) :
    PI X (.Tuple elts kk tpos) (.Call (.Name "enumerate" p) [e] [] pos) (iEnumT X.K ta) := by
  refine ⟨fun pins s σ H R I h => ?_⟩
  refine Call_ (ld_blt I hg hm boot_enumerate (PyProof.Rows.callWith_type1 (thn (ha.run pos pins s σ H _ I h) fun us s1 ⟨vs, H1, I1, r1, q1⟩ => ?_) hs rfl))
  obtain ⟨a, xs, ex, hq, q⟩ := q1
  subst ex
  cases r1 with
  | cons r rr =>
    cases rr
    cases r
    obtain ⟨its, rv, p', hz⟩ := I1.tuple hq
    have la : a < s1.heap.objs.size := p'.lt
    refine enum_begins1 (begins_tuple a its.toArray) (show s1.heap.IsTuple a its.toArray from p') fun h' he hit hsz hk => wpAny_pyIter_enum he ?_
    have I2 : Inv X pins σ H1 { s1 with heap := h' } := I1.kept (t' := s1.toks) hk
    refine ⟨s1.heap.objs.size + 1, [s1.heap.objs.size + 1, s1.heap.objs.size], _, _, H1, rfl, I2, turn_enumT a (s1.heap.objs.size + 1) s1.heap.objs.size (Nat.succ_ne_self _) (Nat.ne_of_gt (Nat.lt_succ_of_lt la)) (Nat.ne_of_lt la), ⟨⟨.none, he⟩, ⟨_, hit, rfl, rfl⟩⟩, fun b hb => ?_, q⟩
    have e' : b = s1.heap.objs.size + 1 ∨ b = s1.heap.objs.size := by simpa using hb
    have hle : s1.heap.objs.size ≤ b := by
      rcases e' with z | z
      · rw [z]; exact Nat.le_add_right _ _
      · rw [z]; exact Nat.le_refl _
    exact I1.fpOk hle (I1.hok.fresh hle)
theorem walk_enumT {K : PySem.W.Frag} {a : Addr} {xs : List V} : Walk (IteT K a) xs.length (fun H => SqT K H a xs) (YPair (fun i => some (.int (i : Nat))) (fun i => xs[i]?)) := by
  refine ⟨fun i _ hi q => ⟨xs, xs[i], q, by simp [hi]⟩, fun _ q => ⟨xs, q, rfl⟩, fun i H v H' _ q y => ?_⟩
  obtain ⟨T, x, h1, h2, h3, h4⟩ := y
  exact ⟨T, .int (i : Nat), x, h1, h2, h3, rfl, h4 xs q⟩
theorem walk_zipT {K : PySem.W.Frag} {a b : Addr} {xs ys : List V} {n : Nat} (hn : n = min xs.length ys.length) : Walk (RZ.ItzT K a b) n (fun H => SqT K H a xs ∧ SqT K H b ys) (YPair (fun i => xs[i]?) (fun i => ys[i]?)) := by
  subst hn
  refine ⟨fun i _ hi q => ?_, fun _ q => ⟨xs, ys, q.1, q.2, by omega⟩, fun i H v H' _ q y => ?_⟩
  · have h1 : i < xs.length := by omega
    have h2 : i < ys.length := by omega
    exact ⟨xs, ys, xs[i], ys[i], q.1, q.2, by simp [h1], by simp [h2]⟩
  · obtain ⟨T, x, z, h1, h2, h3, h4, h5⟩ := y
    exact ⟨T, x, z, h1, h2, h3, h4 xs q.1, h5 ys q.2⟩
end Q8
/-! Rules by values. -/
namespace Q8
open PySem L2
section
variable {Γ : Ga} {r : Rt} {e a b c : Expr} {es : List Expr} {env env' : List Sl} {d d' d1 d2 d3 : D} {ds : List D} {H H0 : Hp} {L P : List (Option Addr)} {σ : St} {pos : Pos}
theorem str_len (x : List Nat) : (⟨x.toArray⟩ : Str).length = x.length := by
  show x.toArray.size = _
  simp
theorem str_app (x y : List Nat) : (⟨x.toArray⟩ : Str) ++ ⟨y.toArray⟩ = ⟨(x ++ y).toArray⟩ := by
  show (⟨x.toArray ++ y.toArray⟩ : Str) = _
  simp
theorem str_inj {x y : List Nat} : ((⟨x.toArray⟩ : Str) = ⟨y.toArray⟩) ↔ x = y := by
  constructor
  · intro h
    injection h with h
    simpa using congrArg Array.toList h
  · rintro rfl; rfl
theorem sz {n : Nat} (h : n ≤ 100000) : n ≤ sizeLine := Evl.sz_of h
/-! ### ints -/
theorem xe_opI {f : Operator} {C : Int → Int → Prop} {g : Int → Int → Int} {x y : Int} (ho : ∀ r : Rt, OpR (Γ.cx r) (binaryOp f) (rI C fun i j => .int (g i j))) (ha : XE Γ a env (.i x)) (hb : XE Γ b env (.i y)) (hc : C x y) : XE Γ (.BinOp a f b pos) env (.i (g x y)) :=
  xe_op (fun r _ => ho r) ha hb fun P H v u Q h1 h2 _ q => by
    simp only [Den] at h1 h2
    exact ⟨x, y, h1, h2, hc, q _ H (Ex.refl H) (by simp only [Den])⟩
theorem xe_opI0 {f : Operator} {g : Int → Int → Int} {x y : Int} (ho : ∀ r : Rt, OpR (Γ.cx r) (binaryOp f) (rI0 fun i j => .int (g i j))) (ha : XE Γ a env (.i x)) (hb : XE Γ b env (.i y)) : XE Γ (.BinOp a f b pos) env (.i (g x y)) :=
  xe_op (fun r _ => ho r) ha hb fun P H v u Q h1 h2 _ q => by
    simp only [Den] at h1 h2
    exact ⟨x, y, h1, h2, q _ H (Ex.refl H) (by simp only [Den])⟩
theorem xe_add {x y : Int} (ha : XE Γ a env (.i x)) (hb : XE Γ b env (.i y)) : XE Γ (.BinOp a .Add b pos) env (.i (x + y)) := xe_opI0 (g := fun i j => i + j) (fun _ => op_add) ha hb
theorem xe_sub {x y : Int} (ha : XE Γ a env (.i x)) (hb : XE Γ b env (.i y)) : XE Γ (.BinOp a .Sub b pos) env (.i (x - y)) := xe_opI0 (g := fun i j => i - j) (fun _ => op_sub) ha hb
theorem xe_mul {x y : Int} (ha : XE Γ a env (.i x)) (hb : XE Γ b env (.i y)) (h : CMul x y) : XE Γ (.BinOp a .Mult b pos) env (.i (x * y)) := xe_opI (g := fun i j => i * j) (fun _ => op_mul) ha hb h
theorem xe_mod {x y : Int} (ha : XE Γ a env (.i x)) (hb : XE Γ b env (.i y)) (h : 0 < y) : XE Γ (.BinOp a .Mod b pos) env (.i (x % y)) := xe_opI (g := fun i j => i % j) (fun _ => op_mod) ha hb h
theorem xe_fdiv {x y : Int} (ha : XE Γ a env (.i x)) (hb : XE Γ b env (.i y)) (h : CDiv x y) : XE Γ (.BinOp a .FloorDiv b pos) env (.i (x / y)) := xe_opI (g := fun i j => i / j) (fun _ => op_fdiv) ha hb h
theorem xe_pow {x y : Int} (ha : XE Γ a env (.i x)) (hb : XE Γ b env (.i y)) (h : CPow x y) : XE Γ (.BinOp a .Pow b pos) env (.i (x ^ y.toNat)) := xe_opI (g := fun i j => i ^ j.toNat) (fun _ => op_pow) ha hb h
theorem xe_cmpI {f : CmpOp} {g : Int → Int → Bool} {x y : Int} (ho : ∀ r : Rt, OpR (Γ.cx r) (compareOp f) (rI0 fun i j => .bl (g i j))) (hm : behindInMarks f b = false) (ha : XE Γ a env (.i x)) (hb : XE Γ b env (.i y)) : XE Γ (.Compare a [f] [b] pos) env (.b (g x y)) :=
  xe_cmp (fun r _ => ho r) hm ha hb fun P H v u Q h1 h2 _ q => by
    simp only [Den] at h1 h2
    exact ⟨x, y, h1, h2, q _ H (Ex.refl H) (by simp only [Den])⟩
theorem xt_cmpI {f : CmpOp} {g : Int → Int → Bool} {x y : Int} (ho : ∀ r : Rt, OpR (Γ.cx r) (compareOp f) (rI0 fun i j => .bl (g i j))) (hm : behindInMarks f b = false) (ha : XE Γ a env (.i x)) (hb : XE Γ b env (.i y)) : XT Γ (.Compare a [f] [b] pos) env (g x y) :=
  xt_cmp (fun r _ => ho r) hm ha hb fun P H v u Q h1 h2 _ q => by
    simp only [Den] at h1 h2
    exact ⟨x, y, h1, h2, q H (Ex.refl H)⟩
theorem xe_lt {x y : Int} (ha : XE Γ a env (.i x)) (hb : XE Γ b env (.i y)) (hm : behindInMarks .Lt b = false := by first | exact nobehind _ (by decide) (by decide)) : XE Γ (.Compare a [.Lt] [b] pos) env (.b (decide (x < y))) := xe_cmpI (g := fun i j => decide (i < j)) (fun _ => op_lt) hm ha hb
theorem xt_lt {x y : Int} (ha : XE Γ a env (.i x)) (hb : XE Γ b env (.i y)) (hm : behindInMarks .Lt b = false := by first | exact nobehind _ (by decide) (by decide)) : XT Γ (.Compare a [.Lt] [b] pos) env (decide (x < y)) := xt_cmpI (g := fun i j => decide (i < j)) (fun _ => op_lt) hm ha hb
theorem xt_le {x y : Int} (ha : XE Γ a env (.i x)) (hb : XE Γ b env (.i y)) (hm : behindInMarks .LtE b = false := by first | exact nobehind _ (by decide) (by decide)) : XT Γ (.Compare a [.LtE] [b] pos) env (decide (x ≤ y)) := xt_cmpI (g := fun i j => decide (i ≤ j)) (fun _ => op_le) hm ha hb
theorem xe_gt {x y : Int} (ha : XE Γ a env (.i x)) (hb : XE Γ b env (.i y)) (hm : behindInMarks .Gt b = false := by first | exact nobehind _ (by decide) (by decide)) : XE Γ (.Compare a [.Gt] [b] pos) env (.b (decide (y < x))) := xe_cmpI (g := fun i j => decide (j < i)) (fun _ => op_gt) hm ha hb
theorem xt_gt {x y : Int} (ha : XE Γ a env (.i x)) (hb : XE Γ b env (.i y)) (hm : behindInMarks .Gt b = false := by first | exact nobehind _ (by decide) (by decide)) : XT Γ (.Compare a [.Gt] [b] pos) env (decide (y < x)) := xt_cmpI (g := fun i j => decide (j < i)) (fun _ => op_gt) hm ha hb
theorem xt_ge {x y : Int} (ha : XE Γ a env (.i x)) (hb : XE Γ b env (.i y)) (hm : behindInMarks .GtE b = false := by first | exact nobehind _ (by decide) (by decide)) : XT Γ (.Compare a [.GtE] [b] pos) env (decide (y ≤ x)) := xt_cmpI (g := fun i j => decide (j ≤ i)) (fun _ => op_ge) hm ha hb
/-! ### == and != of scalars -/
/-- two scalars' equality -/
inductive ScEq : D → D → Bool → Prop
  | i (x y : Int) : ScEq (.i x) (.i y) (decide (x = y))
  | s (x y : List Nat) : ScEq (.s x) (.s y) (decide (x = y))
  | b (x y : Bool) : ScEq (.b x) (.b y) (decide (x = y))
  | nn : ScEq .n .n true
  | ns (x : List Nat) : ScEq .n (.s x) false
  | sn (x : List Nat) : ScEq (.s x) .n false
theorem ScEq.ok {t : Bool} (h : ScEq d1 d2 t) {E : En} {x y : V} (h1 : Den E H d1 x) (h2 : Den E H d2 y) : scal x y = true ∧ decide (x = y) = t := by
  cases h <;> simp only [Den] at h1 h2 <;> subst h1 h2
  · exact ⟨rfl, by simp⟩
  · refine ⟨rfl, ?_⟩
    have := @str_inj
    simp [V.str.injEq, this]
  · exact ⟨rfl, by simp⟩
  · exact ⟨rfl, by simp⟩
  · exact ⟨rfl, by simp⟩
  · exact ⟨rfl, by simp⟩
theorem xe_eq {t : Bool} (ha : XE Γ a env d1) (hb : XE Γ b env d2) (h : ScEq d1 d2 t) (hm : behindInMarks .Eq b = false := by first | exact nobehind _ (by decide) (by decide)) : XE Γ (.Compare a [.Eq] [b] pos) env (.b t) :=
  xe_cmp (fun r _ => op_eq) hm ha hb fun P H v u Q h1 h2 _ q => by
    obtain ⟨s1, s2⟩ := h.ok h1 h2
    exact ⟨s1, q _ H (Ex.refl H) (by simp only [Den, s2])⟩
theorem xt_eq {t : Bool} (ha : XE Γ a env d1) (hb : XE Γ b env d2) (h : ScEq d1 d2 t) (hm : behindInMarks .Eq b = false := by first | exact nobehind _ (by decide) (by decide)) : XT Γ (.Compare a [.Eq] [b] pos) env t :=
  xt_cmp (fun r _ => op_eq) hm ha hb fun P H v u Q h1 h2 _ q => by
    obtain ⟨s1, s2⟩ := h.ok h1 h2
    exact ⟨s1, by rw [s2]; exact q H (Ex.refl H)⟩
theorem xe_ne {t : Bool} (ha : XE Γ a env d1) (hb : XE Γ b env d2) (h : ScEq d1 d2 t) (hm : behindInMarks .NotEq b = false := by first | exact nobehind _ (by decide) (by decide)) : XE Γ (.Compare a [.NotEq] [b] pos) env (.b (!t)) :=
  xe_cmp (fun r _ => op_ne) hm ha hb fun P H v u Q h1 h2 _ q => by
    obtain ⟨s1, s2⟩ := h.ok h1 h2
    exact ⟨s1, q _ H (Ex.refl H) (by simp only [Den, s2])⟩
theorem xt_ne {t : Bool} (ha : XE Γ a env d1) (hb : XE Γ b env d2) (h : ScEq d1 d2 t) (hm : behindInMarks .NotEq b = false := by first | exact nobehind _ (by decide) (by decide)) : XT Γ (.Compare a [.NotEq] [b] pos) env (!t) :=
  xt_cmp (fun r _ => op_ne) hm ha hb fun P H v u Q h1 h2 _ q => by
    obtain ⟨s1, s2⟩ := h.ok h1 h2
    exact ⟨s1, by rw [s2]; exact q H (Ex.refl H)⟩
/-! ### is None, is True -/
def isN : D → Bool
  | .n => true
  | _ => false
theorem isN_den {E : En} {v : V} (h : Den E H d v) : decide (v = .non) = isN d := by
  cases d <;> simp only [Den] at h <;> simp [isN, h]
  all_goals (obtain ⟨p, h⟩ := h; first | (obtain ⟨x, h⟩ := h; first | (obtain ⟨y, h⟩ := h; simp [h.1]) | simp [h.1]) | simp [h.1])
theorem xe_isN (ha : XE Γ a env d) {j pos'} : XE Γ (.Compare a [.Is] [.Constant .none j pos'] pos) env (.b (isN d)) :=
  xe_cmp (fun r _ => op_isN) (nobehind _ (by decide) (by decide)) ha xe_non fun P H v u Q h1 h2 _ q => by
    have e := isN_den h1
    simp only [Den] at h2
    exact ⟨h2, q _ H (Ex.refl H) (by simp only [Den, e])⟩
theorem xt_isN (ha : XE Γ a env d) {j pos'} : XT Γ (.Compare a [.Is] [.Constant .none j pos'] pos) env (isN d) :=
  xt_cmp (fun r _ => op_isN) (nobehind _ (by decide) (by decide)) ha xe_non fun P H v u Q h1 h2 _ q => by
    have e := isN_den h1
    simp only [Den] at h2
    exact ⟨h2, by rw [e]; exact q H (Ex.refl H)⟩
theorem xe_notN (ha : XE Γ a env d) {j pos'} : XE Γ (.Compare a [.IsNot] [.Constant .none j pos'] pos) env (.b (!isN d)) :=
  xe_cmp (fun r _ => op_notN) (nobehind _ (by decide) (by decide)) ha xe_non fun P H v u Q h1 h2 _ q => by
    have e := isN_den h1
    simp only [Den] at h2
    exact ⟨h2, q _ H (Ex.refl H) (by simp only [Den, e])⟩
theorem xt_notN (ha : XE Γ a env d) {j pos'} : XT Γ (.Compare a [.IsNot] [.Constant .none j pos'] pos) env (!isN d) :=
  xt_cmp (fun r _ => op_notN) (nobehind _ (by decide) (by decide)) ha xe_non fun P H v u Q h1 h2 _ q => by
    have e := isN_den h1
    simp only [Den] at h2
    exact ⟨h2, by rw [e]; exact q H (Ex.refl H)⟩
theorem xe_isB {x y : Bool} (ha : XE Γ a env (.b x)) (hb : XE Γ b env (.b y)) : XE Γ (.Compare a [.Is] [b] pos) env (.b (decide (x = y))) :=
  xe_cmp (fun r _ => op_is_bl) (nobehind _ (by decide) (by decide)) ha hb fun P H v u Q h1 h2 _ q => by
    simp only [Den] at h1 h2
    exact ⟨x, y, h1, h2, q _ H (Ex.refl H) (by simp only [Den])⟩
theorem xt_notB {x y : Bool} (ha : XE Γ a env (.b x)) (hb : XE Γ b env (.b y)) : XT Γ (.Compare a [.IsNot] [b] pos) env (!decide (x = y)) :=
  xt_cmp (fun r _ => op_isnot_bl) (nobehind _ (by decide) (by decide)) ha hb fun P H v u Q h1 h2 _ q => by
    simp only [Den] at h1 h2
    exact ⟨x, y, h1, h2, q H (Ex.refl H)⟩
/-! ### texts -/
theorem xe_addS {x y : List Nat} (ha : XE Γ a env (.s x)) (hb : XE Γ b env (.s y)) (hl : x.length + y.length ≤ 100000) : XE Γ (.BinOp a .Add b pos) env (.s (x ++ y)) :=
  xe_op (fun r _ => op_add_str) ha hb fun P H v u Q h1 h2 _ q => by
    simp only [Den] at h1 h2
    exact ⟨_, _, h1, h2, sz (by rw [str_len, str_len]; exact hl), q _ H (Ex.refl H) (by simp only [Den]; rw [str_app])⟩
theorem rep_flat (c : List Nat) : ∀ (n : Nat) (acc : Array Nat), (List.replicate n c.toArray).foldl (· ++ ·) acc = acc ++ ((List.replicate n c).flatten).toArray
  | 0, acc => by simp
  | n + 1, acc => by
    rw [List.replicate_succ, List.foldl_cons, rep_flat c n]
    simp [List.replicate_succ, Array.append_assoc]
theorem mul_txt (x : List Nat) (n : Nat) : Txt.mul ⟨x.toArray⟩ (n : Int) = ⟨((List.replicate n x).flatten).toArray⟩ := by
  unfold Txt.mul
  by_cases h : (n : Int) < 1
  · have : n = 0 := by omega
    subst this
    rw [if_pos h]
    rfl
  · rw [if_neg h]
    split
    · rename_i hc
      rw [Bool.or_eq_true, beq_iff_eq, beq_iff_eq] at hc
      rcases hc with h | h
      · have : n = 1 := by omega
        subst this
        simp
      · rw [str_len] at h
        have : x = [] := List.length_eq_zero_iff.mp h
        subst this
        simp
    · show (⟨(List.replicate ((n : Int).toNat) x.toArray).foldl (· ++ ·) #[]⟩ : Str) = _
      rw [Int.toNat_natCast, rep_flat]
      simp
theorem op_mulS {X : Cx} : OpR X (binaryOp .Mult) (fun x y H Q => ∃ (i : Str) (k : Int), x = .str i ∧ y = .int k ∧ i.length ≤ 1000 ∧ k ≤ 1000 ∧ -(2 ^ 63) ≤ k ∧ Q (.str (Txt.mul i k)) H) := by
  intro pins s σ H x y v u Q I rx ry h
  obtain ⟨i, k, rfl, rfl, h1, h2, h3, q⟩ := h
  obtain ⟨t, rfl⟩ := rx
  obtain ⟨t', rfl⟩ := ry
  exact PySem.SB.mul (PyProof.Rows.mulOk_of 1000 1000 h1 h2 h3 (by decide) (by decide)) fun t' tk => ⟨.str (Txt.mul i k), H, I.tok _, ⟨_, rfl⟩, q⟩
theorem xe_mulS {x : List Nat} {n : Nat} (ha : XE Γ a env (.s x)) (hb : XE Γ b env (.i (n : Int))) (h1 : x.length ≤ 1000) (h2 : n ≤ 1000) : XE Γ (.BinOp a .Mult b pos) env (.s (List.replicate n x).flatten) :=
  xe_op (fun r _ => op_mulS) ha hb fun P H v u Q g1 g2 _ q => by
    simp only [Den] at g1 g2
    exact ⟨_, _, g1, g2, by rw [str_len]; exact h1, by omega, by omega, q _ H (Ex.refl H) (by simp only [Den]; rw [mul_txt])⟩
/-- one sign in a text -/
theorem xt_inS {x : Nat} {y : List Nat} (ha : XE Γ a env (.s [x])) (hb : XE Γ b env (.s y)) (hm : behindInMarks .In b = false := by rfl) : XT Γ (.Compare a [.In] [b] pos) env (decide (x ∈ y)) :=
  xt_cmp (fun r _ => op_in_sign) hm ha hb fun P H v u Q h1 h2 _ q => by
    simp only [Den] at h1 h2
    exact ⟨x, _, h1, h2, by simpa using q H (Ex.refl H)⟩
theorem xt_notInS {x : Nat} {y : List Nat} (ha : XE Γ a env (.s [x])) (hb : XE Γ b env (.s y)) (hm : behindInMarks .NotIn b = false := by rfl) : XT Γ (.Compare a [.NotIn] [b] pos) env (!decide (x ∈ y)) :=
  xt_cmp (fun r _ => op_notIn_sign) hm ha hb fun P H v u Q h1 h2 _ q => by
    simp only [Den] at h1 h2
    exact ⟨x, _, h1, h2, by simpa using q H (Ex.refl H)⟩
/-- a flat value among flat values of a list or tuple -/
inductive Flat : D → V → Prop
  | i (x : Int) : Flat (.i x) (.int x)
  | s (x : List Nat) : Flat (.s x) (.str ⟨x.toArray⟩)
theorem eqV_s (x y : List Nat) : eqV (.str ⟨x.toArray⟩) (.str ⟨y.toArray⟩) = decide (x = y) := by
  have := @str_inj x y
  rw [Bool.eq_iff_iff]
  simp [eqV, this]
theorem eqV_i (x y : Int) : eqV (.int x) (.int y) = decide (x = y) := by
  rw [Bool.eq_iff_iff]
  simp [eqV]
theorem inV_s (x : List Nat) (ys : List (List Nat)) : inV (.str ⟨x.toArray⟩) (ys.map fun x => V.str ⟨x.toArray⟩) = decide (x ∈ ys) := by
  unfold inV
  rw [List.any_map, Bool.eq_iff_iff, List.any_eq_true]
  simp [eqV_s]
theorem inV_i (x : Int) (ys : List Int) : inV (.int x) (ys.map V.int) = decide (x ∈ ys) := by
  unfold inV
  rw [List.any_map, Bool.eq_iff_iff, List.any_eq_true]
  simp [eqV_i]
theorem flat_s (ys : List (List Nat)) : (ys.map fun x => V.str ⟨x.toArray⟩).all flatV = true := by simp [flatV]
theorem flat_i (ys : List Int) : (ys.map V.int).all flatV = true := by simp [flatV]
/-- what is looked for, where, and whether it is there -/
inductive InSq : D → D → Bool → Prop
  | sl (x : List Nat) (ys : List (List Nat)) : InSq (.s x) (.l (ys.map .s)) (decide (x ∈ ys))
  | st (x : List Nat) (ys : List (List Nat)) : InSq (.s x) (.t (ys.map .s)) (decide (x ∈ ys))
  | il (x : Int) (ys : List Int) : InSq (.i x) (.l (ys.map .i)) (decide (x ∈ ys))
  | it (x : Int) (ys : List Int) : InSq (.i x) (.t (ys.map .i)) (decide (x ∈ ys))
theorem InSq.ok {t : Bool} (h : InSq d1 d2 t) {E : En} {x y : V} (h1 : Den E H d1 x) (h2 : Den E H d2 y) : ∃ p xs, y = .ref p ∧ (SqL E.K H p xs ∨ SqT E.K H p xs) ∧ flatV x = true ∧ xs.all flatV = true ∧ inV x xs = t := by
  cases h <;> simp only [Den] at h1 h2 <;> subst h1 <;> obtain ⟨p, vs, rfl, h3, h4⟩ := h2
  · rw [denL_s] at h4; subst h4
    exact ⟨p, _, rfl, .inl (SqL.of h3), rfl, flat_s _, inV_s _ _⟩
  · rw [denL_s] at h4; subst h4
    exact ⟨p, _, rfl, .inr h3, rfl, flat_s _, inV_s _ _⟩
  · rw [denL_i] at h4; subst h4
    exact ⟨p, _, rfl, .inl (SqL.of h3), rfl, flat_i _, inV_i _ _⟩
  · rw [denL_i] at h4; subst h4
    exact ⟨p, _, rfl, .inr h3, rfl, flat_i _, inV_i _ _⟩
theorem sq_sub {K : PySem.W.Frag} {p : Addr} {xs : List V} (h : SqL K (hid P H) p xs ∨ SqT K (hid P H) p xs) : SqL K H p xs ∨ SqT K H p xs := h.imp (ex_l hid_sub) (ex_t hid_sub)
theorem xt_in {t : Bool} (ha : XE Γ a env d1) (hb : XE Γ b env d2) (h : InSq d1 d2 t) (hm : behindInMarks .In b = false := by rfl) : XT Γ (.Compare a [.In] [b] pos) env t :=
  xt_cmp (R := rIn Γ.K false) (fun r _ => op_in_seq (X := Γ.cx r)) hm ha hb fun P H v u Q h1 h2 _ q => by
    obtain ⟨p, xs, e, s, f1, f2, e2⟩ := h.ok h1 h2
    exact ⟨p, xs, e, sq_sub s, f1, f2, by simpa [e2] using q H (Ex.refl H)⟩
theorem xe_in {t : Bool} (ha : XE Γ a env d1) (hb : XE Γ b env d2) (h : InSq d1 d2 t) (hm : behindInMarks .In b = false := by rfl) : XE Γ (.Compare a [.In] [b] pos) env (.b t) :=
  xe_cmp (R := rIn Γ.K false) (fun r _ => op_in_seq (X := Γ.cx r)) hm ha hb fun P H v u Q h1 h2 _ q => by
    obtain ⟨p, xs, e, s, f1, f2, e2⟩ := h.ok h1 h2
    exact ⟨p, xs, e, sq_sub s, f1, f2, q _ H (Ex.refl H) (by simp [Den, e2])⟩
theorem xt_notIn {t : Bool} (ha : XE Γ a env d1) (hb : XE Γ b env d2) (h : InSq d1 d2 t) (hm : behindInMarks .NotIn b = false := by rfl) : XT Γ (.Compare a [.NotIn] [b] pos) env (!t) :=
  xt_cmp (R := rIn Γ.K true) (fun r _ => op_notIn_seq (X := Γ.cx r)) hm ha hb fun P H v u Q h1 h2 _ q => by
    obtain ⟨p, xs, e, s, f1, f2, e2⟩ := h.ok h1 h2
    exact ⟨p, xs, e, sq_sub s, f1, f2, by simpa [e2] using q H (Ex.refl H)⟩
/-! ### lists and tuples put together -/
theorem xe_addL {xs ys : List D} (ha : XE Γ a env (.l xs)) (hb : XE Γ b env (.l ys)) (hl : xs.length + ys.length ≤ 100000) : XE Γ (.BinOp a .Add b pos) env (.l (xs ++ ys)) :=
  xe_op (fun r _ => op_cat) ha hb fun P H v u Q h1 h2 tr q => by
    simp only [Den] at h1 h2
    obtain ⟨p, vs, rfl, g1, g2⟩ := h1
    obtain ⟨p', ws, rfl, g3, g4⟩ := h2
    refine ⟨p, p', vs, ws, rfl, rfl, hid_sub _ _ g1, hid_sub _ _ g3, sz (by rw [g2.len, g4.len]; exact hl), fun z hz => q _ _ (Ex.new hz) (den_lst hz tr (g2.append g4))⟩
theorem den_tupS {p : Addr} {vs : List V} (h : SqT Γ.K (hid P H) p vs) (h2 : DenL Γ.en (hid P H) ds vs) : Den Γ.en (hid P H) (.t ds) (.ref p) := by
  simp only [Den]; exact ⟨p, vs, rfl, h, h2⟩
theorem xe_addT {xs ys : List D} (ha : XE Γ a env (.t xs)) (hb : XE Γ b env (.t ys)) (hl : xs.length + ys.length ≤ 100000) : XE Γ (.BinOp a .Add b pos) env (.t (xs ++ ys)) :=
  xe_op (R := rCatA Γ.K) (fun r _ => op_catA (X := Γ.cx r)) ha hb fun P H v u Q h1 h2 tr q => by
    simp only [Den] at h1 h2
    obtain ⟨p, vs, rfl, g1, g2⟩ := h1
    obtain ⟨p', ws, rfl, g3, g4⟩ := h2
    refine ⟨p, p', vs, ws, rfl, rfl, ex_t hid_sub g1, ex_t hid_sub g3, sz (by rw [g2.len, g4.len]; exact hl), fun e => ?_, fun _ e => ?_, fun _ _ z hz => q _ _ (Ex.new hz) (den_tup hz tr (g2.append g4))⟩
    · subst e
      have : xs = [] := List.length_eq_zero_iff.mp g2.len.symm
      subst this
      exact q _ H (Ex.refl H) (den_tupS g3 g4)
    · subst e
      have : ys = [] := List.length_eq_zero_iff.mp g4.len.symm
      subst this
      rw [List.append_nil] at q
      exact q _ H (Ex.refl H) (den_tupS g1 g2)
theorem DenL.rep {E : En} {xs : List D} {vs : List V} (h : DenL E H xs vs) : ∀ n, DenL E H (List.replicate n xs).flatten (List.replicate n vs).flatten
  | 0 => DenL.nil
  | n + 1 => by
    rw [List.replicate_succ, List.replicate_succ, List.flatten_cons, List.flatten_cons]
    exact h.append (DenL.rep h n)
theorem xe_mulL {xs : List D} {n : Nat} (ha : XE Γ a env (.l xs)) (hb : XE Γ b env (.i (n : Int))) (hl : xs.length * n ≤ 100000) (hn : n ≤ 100000) : XE Γ (.BinOp a .Mult b pos) env (.l (List.replicate n xs).flatten) :=
  xe_op (fun r _ => op_rep) ha hb fun P H v u Q h1 h2 tr q => by
    simp only [Den] at h1 h2
    obtain ⟨p, vs, rfl, g1, g2⟩ := h1
    subst h2
    refine ⟨p, n, vs, rfl, rfl, hid_sub _ _ g1, by omega, by omega, sz (by rw [g2.len]; simpa using hl), fun z hz => q _ _ (Ex.new hz) ?_⟩
    rw [Int.toNat_natCast]
    exact den_lst hz tr (g2.rep n)
/-! ### items -/
theorem ixN_nat {n j : Nat} (hj : j < n) : ixN n (j : Int) = some j := Evl.ixN_nat hj
theorem atI_of {α : Type} {xs : List α} {k : Int} {x : α} (h0 : 0 ≤ k) (h : xs[k.toNat]? = some x) : atI xs k = some x := by
  have hj := (List.getElem?_eq_some_iff.mp h).1
  have e : k = (k.toNat : Int) := by omega
  unfold atI
  rw [e, ixN_nat hj]
  exact h
/-- o[k] has the value d -/
inductive ItemD : D → Int → D → Prop
  | l {xs : List D} {k : Int} {x : D} (h0 : 0 ≤ k) (h : xs[k.toNat]? = some x) : ItemD (.l xs) k x
  | t {xs : List D} {k : Int} {x : D} (h0 : 0 ≤ k) (h : xs[k.toNat]? = some x) : ItemD (.t xs) k x
  | q {xs : List Int} {k x : Int} (h0 : 0 ≤ k) (h : xs[k.toNat]? = some x) : ItemD (.q xs) k (.i x)
  | s {xs : List Nat} {k : Int} {x : Nat} (h0 : 0 ≤ k) (hl : xs.length ≤ 100000) (h : xs[k.toNat]? = some x) : ItemD (.s xs) k (.s [x])
theorem xe_ix {k : Int} (ha : XE Γ a env d1) (hb : XE Γ b env (.i k)) (h : ItemD d1 k d) (hs : PlainIx b := by exact (fun _ _ => rfl)) : XE Γ (.Subscript a b pos) env d := xe_of fun r o =>
  ⟨_, pe_ix (X := Γ.cx r) ix_seq (pe_r o) (pe_r o) hs, fun σ H H0 L P Q at0 q => ha.rd at0 fun v H1 e1 h1 => hb.rd (at0.grow e1) fun u H2 e2 h2 => by
    have h1' := h1.mono (hid_mono e2)
    simp only [Den] at h2
    subst h2
    have fin : ∀ z, Den Γ.en (hid P H2) d z → Q z H2 := fun z hz => q z H2 (e1.trans e2) hz
    cases h with
    | l h0 hx =>
      simp only [Den] at h1'
      obtain ⟨p, vs, rfl, g1, g2⟩ := h1'
      obtain ⟨z, g3, g4⟩ := g2.get hx
      exact .inl ⟨p, vs, k, z, rfl, rfl, SqL.of (hid_sub _ _ g1), atI_of h0 g3, fin z g4⟩
    | t h0 hx =>
      simp only [Den] at h1'
      obtain ⟨p, vs, rfl, g1, g2⟩ := h1'
      obtain ⟨z, g3, g4⟩ := g2.get hx
      exact .inr (.inl ⟨p, vs, k, z, rfl, rfl, ex_t hid_sub g1, atI_of h0 g3, fin z g4⟩)
    | q h0 hx =>
      simp only [Den] at h1'
      obtain ⟨p, rfl, g1⟩ := h1'
      exact .inl ⟨p, _, k, _, rfl, rfl, ex_l hid_sub g1, atI_of h0 (by rw [List.getElem?_map, hx]; rfl), fin _ (by simp only [Den])⟩
    | s h0 hl hx =>
      simp only [Den] at h1'
      subst h1'
      exact .inr (.inr ⟨_, k, _, rfl, rfl, sz (by rw [str_len]; exact hl), atI_of h0 (by simpa using hx), fin _ (by simp only [Den])⟩)⟩
end
end Q8
/-! Calls, slices, iterators, owned things. -/
namespace Q8
open PySem L2
section
variable {Γ : Ga} {r : Rt} {e a b c o : Expr} {es : List Expr} {env env' : List Sl} {d d' d1 d2 d3 : D} {ds : List D} {H H0 H' : Hp} {L P : List (Option Addr)} {σ : L2.St} {pos p apos : Pos} {x : Str}
/-! ### calls of built-in things -/
theorem xe_callB {id : String} {R : List V → Hp → VK → Prop} (hc : ∀ r : Rt, r.Ok Γ → CallR (Γ.cx r) (.builtin id) R) (hm : Γ.mg x = none) (ha : XA Γ (e :: es) env ds)
    (hr : ∀ P H vs Q, DenL Γ.en (hid P H) ds vs → (∀ p, some p ∈ P → ∃ o, H p = some o) → (∀ z H', Ex H H' → Den Γ.en (hid P H') d z → Q z H') → R vs H Q)
    (hg : Gl' Γ x := by rfl) (hv : bootBuiltins x = some (.builtin id) := by decide +kernel) (hn : x ≠ "__name__" := by decide) (hdb : (x == ("__debug__" : Str)) = false := by decide)
    (he : ∀ ev : Env, starEach (e :: es) ev = (false, eval e ev) :: starEach es ev := by intro _; rfl) (hpl : ∀ ev : Env, (backTo pos (starEach es ev)).any (·.1) = false := by intro _; rfl) : XE Γ (.Call (.Name x p) (e :: es) [] pos) env d := xe_of fun r o =>
  ⟨_, pe_callB (X := Γ.cx r) (hc r o) hg hm hv (pa_r o) hn hdb (he _) (hpl _), fun σ H H0 L P Q at0 q => ha.rd at0 fun vs H1 e1 h1 => hr P H1 vs Q h1 (at0.grow e1).tr fun z H' e2 h2 => q z H' (e1.trans e2) h2⟩
theorem xe_callTy {T : String} {R : List V → Hp → VK → Prop} (hc : ∀ r : Rt, r.Ok Γ → CallR (Γ.cx r) (.type T) R) (hm : Γ.mg x = none) (ha : XA Γ (e :: es) env ds)
    (hr : ∀ P H vs Q, DenL Γ.en (hid P H) ds vs → (∀ p, some p ∈ P → ∃ o, H p = some o) → (∀ z H', Ex H H' → Den Γ.en (hid P H') d z → Q z H') → R vs H Q)
    (hg : Gl' Γ x := by rfl) (hv : bootBuiltins x = some (.type T) := by decide +kernel) (hn : x ≠ "__name__" := by decide) (hdb : (x == ("__debug__" : Str)) = false := by decide)
    (he : ∀ ev : Env, starEach (e :: es) ev = (false, eval e ev) :: starEach es ev := by intro _; rfl) (hpl : ∀ ev : Env, (backTo pos (starEach es ev)).any (·.1) = false := by intro _; rfl) : XE Γ (.Call (.Name x p) (e :: es) [] pos) env d := xe_of fun r o =>
  ⟨_, pe_callTy (X := Γ.cx r) (hc r o) hg hm hv (pa_r o) hn hdb (he _) (hpl _), fun σ H H0 L P Q at0 q => ha.rd at0 fun vs H1 e1 h1 => hr P H1 vs Q h1 (at0.grow e1).tr fun z H' e2 h2 => q z H' (e1.trans e2) h2⟩
/-- what has a length -/
inductive LenD : D → Nat → Prop
  | s (x : List Nat) (h : x.length ≤ 100000) : LenD (.s x) x.length
  | l (xs : List D) : LenD (.l xs) xs.length
  | t (xs : List D) : LenD (.t xs) xs.length
  | q (xs : List Int) : LenD (.q xs) xs.length
theorem LenD.ok {n : Nat} {v : V} (h : LenD d n) (hd : Den Γ.en (hid P H) d v) : LenV Γ.K v H n := by
  cases h with
  | s x h => simp only [Den] at hd; subst hd; exact ⟨sz (by rw [str_len]; exact h), (str_len _).symm⟩
  | l xs => simp only [Den] at hd; obtain ⟨p, vs, rfl, h1, h2⟩ := hd; exact .inl ⟨vs, SqL.of (hid_sub _ _ h1), h2.len.symm⟩
  | t xs => simp only [Den] at hd; obtain ⟨p, vs, rfl, h1, h2⟩ := hd; exact .inr ⟨vs, ex_t hid_sub h1, h2.len.symm⟩
  | q xs => simp only [Den] at hd; obtain ⟨p, rfl, h1⟩ := hd; exact .inl ⟨_, ex_l hid_sub h1, by simp⟩
theorem xe_len {n : Nat} (hm : Γ.mg "len" = none) (ha : XE Γ a env d) (h : LenD d n) (hg : Gl' Γ "len" := by rfl) (hs : ∀ ev : Env, starEach [a] ev = (false, eval a ev) :: starEach [] ev := by intro _; rfl) : XE Γ (.Call (.Name "len" p) [a] [] pos) env (.i n) :=
  xe_callB (R := fun xs H Q => ∃ x n, xs = [x] ∧ LenV Γ.K x H n ∧ Q (.int n) H) (fun r _ => call_len (X := Γ.cx r)) hm (xa_cons ha xa_nil hs) (fun P H vs Q h1 _ q => by
    simp only [DenL] at h1
    obtain ⟨v, r, rfl, h2, rfl⟩ := h1
    exact ⟨v, n, rfl, h.ok h2, q _ H (Ex.refl H) (by simp only [Den])⟩) hg (by decide +kernel) (by decide) (by decide) hs
/-- int of an int, of a bool -/
inductive IntD : D → Int → Prop
  | i (x : Int) : IntD (.i x) x
  | b (x : Bool) : IntD (.b x) (if x then 1 else 0)
theorem xe_int1 {n : Int} (hm : Γ.mg "int" = none) (ha : XE Γ a env d) (h : IntD d n) (hg : Gl' Γ "int" := by rfl) (hs : ∀ ev : Env, starEach [a] ev = (false, eval a ev) :: starEach [] ev := by intro _; rfl) : XE Γ (.Call (.Name "int" p) [a] [] pos) env (.i n) :=
  xe_callTy (fun r _ => call_int1) hm (xa_cons ha xa_nil hs) (fun P H vs Q h1 _ q => by
    simp only [DenL] at h1
    obtain ⟨v, r, rfl, h2, rfl⟩ := h1
    cases h with
    | i x => simp only [Den] at h2; subst h2; exact .inl ⟨_, rfl, q _ H (Ex.refl H) (by simp only [Den])⟩
    | b x => simp only [Den] at h2; subst h2; exact .inr ⟨_, rfl, q _ H (Ex.refl H) (by simp only [Den])⟩) hg (by decide +kernel) (by decide) (by decide) hs
theorem xe_two {id : String} {g : Int → Int → Int} {n m : Int} (hm : Γ.mg x = none) (ha : XE Γ a env (.i n)) (hb : XE Γ b env (.i m)) (hc : ∀ r : Rt, CallR (Γ.cx r) (.builtin id) (fun xs H Q => ∃ i j, xs = [.int i, .int j] ∧ Q (.int (g i j)) H)) (hg : Gl' Γ x := by rfl) (hv : bootBuiltins x = some (.builtin id) := by decide +kernel) (hn : x ≠ "__name__" := by decide) (hdb : (x == ("__debug__" : Str)) = false := by decide)
    (hs : ∀ ev : Env, starEach [a, b] ev = (false, eval a ev) :: starEach [b] ev := by intro _; rfl) (hs2 : ∀ ev : Env, starEach [b] ev = (false, eval b ev) :: starEach [] ev := by intro _; rfl) (hpl : ∀ ev : Env, (backTo pos (starEach [b] ev)).any (·.1) = false := by intro _; rfl) : XE Γ (.Call (.Name x p) [a, b] [] pos) env (.i (g n m)) :=
  xe_callB (fun r _ => hc r) hm (xa_cons ha (xa_cons hb xa_nil hs2) hs) (fun P H vs Q h1 _ q => by
    simp only [DenL, Den] at h1
    obtain ⟨v, r, rfl, rfl, w, r', rfl, rfl, rfl⟩ := h1
    exact ⟨n, m, rfl, q _ H (Ex.refl H) (by simp only [Den])⟩) hg hv hn hdb hs hpl
theorem xe_tupleL (hm : Γ.mg "tuple" = none) (ha : XE Γ a env (.l ds)) (hg : Gl' Γ "tuple" := by rfl) (hs : ∀ ev : Env, starEach [a] ev = (false, eval a ev) :: starEach [] ev := by intro _; rfl) : XE Γ (.Call (.Name "tuple" p) [a] [] pos) env (.t ds) :=
  xe_callTy (R := fun xs H Q => ∃ p ys, xs = [.ref p] ∧ ((SqL Γ.K H p ys ∧ ∀ l, H l = none → Q (.ref l) (upd H l (.tup ys))) ∨ (SqT Γ.K H p ys ∧ Q (.ref p) H))) (fun r _ => call_tuple_of (X := Γ.cx r)) hm (xa_cons ha xa_nil hs) (fun P H vs Q h1 tr q => by
    simp only [DenL, Den] at h1
    obtain ⟨v, r, rfl, ⟨p, ws, rfl, h3, h4⟩, rfl⟩ := h1
    exact ⟨p, ws, rfl, .inl ⟨SqL.of (hid_sub _ _ h3), fun l hl => q _ _ (Ex.new hl) (den_tup hl tr h4)⟩⟩) hg (by decide +kernel) (by decide) (by decide) hs
theorem xe_listL (hm : Γ.mg "list" = none) (ha : XE Γ a env (.l ds)) (hg : Gl' Γ "list" := by rfl) (hs : ∀ ev : Env, starEach [a] ev = (false, eval a ev) :: starEach [] ev := by intro _; rfl) : XE Γ (.Call (.Name "list" p) [a] [] pos) env (.l ds) :=
  xe_callTy (R := fun xs H Q => ∃ p ys, xs = [.ref p] ∧ (SqL Γ.K H p ys ∨ SqT Γ.K H p ys) ∧ ∀ l, H l = none → Q (.ref l) (upd H l (.lst ys))) (fun r _ => call_list_of (X := Γ.cx r)) hm (xa_cons ha xa_nil hs) (fun P H vs Q h1 tr q => by
    simp only [DenL, Den] at h1
    obtain ⟨v, r, rfl, ⟨p, ws, rfl, h3, h4⟩, rfl⟩ := h1
    exact ⟨p, ws, rfl, .inl (SqL.of (hid_sub _ _ h3)), fun l hl => q _ _ (Ex.new hl) (den_lst hl tr h4)⟩) hg (by decide +kernel) (by decide) (by decide) hs
theorem xe_sum {ns : List Int} (hm : Γ.mg "sum" = none) (ha : XE Γ a env (.l (ns.map .i))) (hg : Gl' Γ "sum" := by rfl) (hs : ∀ ev : Env, starEach [a] ev = (false, eval a ev) :: starEach [] ev := by intro _; rfl) : XE Γ (.Call (.Name "sum" p) [a] [] pos) env (.i ns.sum) :=
  xe_callB (R := rSum Γ.K) (fun r _ => cr_sum (X := Γ.cx r) rfl) hm (xa_cons ha xa_nil hs) (fun P H vs Q h1 tr q => by
    simp only [DenL, Den] at h1
    obtain ⟨v, r, rfl, ⟨p, ws, rfl, h3, h4⟩, rfl⟩ := h1
    rw [denL_i] at h4
    subst h4
    exact ⟨p, ns, rfl, SqL.of (hid_sub _ _ h3), q _ H (Ex.refl H) (by simp only [Den])⟩) hg (by decide +kernel) (by decide) (by decide) hs
theorem join_txt : ∀ ys : List (List Nat), PySem.Txt.join ⟨([] : List Nat).toArray⟩ (ys.map fun x => ⟨x.toArray⟩) = ⟨ys.flatten.toArray⟩ := by
  intro ys
  unfold PySem.Txt.join
  rw [StrLaws.glued_eq_join]
  induction ys with
  | nil => rfl
  | cons y ys ih =>
    cases ys with
    | nil => simp [Str.join]
    | cons z zs =>
      show (⟨y.toArray⟩ : Str) ++ ⟨([] : List Nat).toArray⟩ ++ Str.join _ (List.map _ (z :: zs)) = _
      rw [ih, str_app, str_app]
      simp
theorem join_sum (ys : List (List Nat)) : ((ys.map fun x => (⟨x.toArray⟩ : Str)).map (·.length)).sum = (ys.flatten).length := by
  rw [List.map_map, List.length_flatten]
  exact congrArg List.sum (List.map_congr_left fun x _ => str_len x)
/-- "".join(list of texts) -/
theorem xe_join {ys : List (List Nat)} (ho : XE Γ o env (.s [])) (ha : XE Γ a env (.l (ys.map .s))) (hl : ys.flatten.length ≤ 100000) (hs : ∀ ev : Env, starEach [a] ev = [(false, eval a ev)] := by intro _; rfl) (hb : ∀ ev : Env, attributeBase o "join" ev (eval o ev) = eval o ev := by intro _; rfl) (hline : (apos.endLine == pos.line) = true := by rfl) :
    XE Γ (.Call (.Attribute o "join" apos) [a] [] pos) env (.s ys.flatten) := xe_of fun r ok =>
  ⟨_, pe_join (X := Γ.cx r) (pe_r ok) (pe_r ok) (hs _) (hb _) hline, fun σ H H0 L P Q at0 q => ho.rd at0 fun v H1 e1 h1 => by
    simp only [Den] at h1
    refine ⟨⟨_, h1⟩, ha.rd (at0.grow e1) fun u H2 e2 h2 => ?_⟩
    simp only [Den] at h2
    obtain ⟨p, vs, rfl, h3, h4⟩ := h2
    rw [denL_s] at h4
    subst h4
    refine ⟨_, p, ys.map fun x => ⟨x.toArray⟩, h1, rfl, .inl (SqL.of (by rw [List.map_map]; exact hid_sub _ _ h3)), ?_, q _ H2 (e1.trans e2) (by simp only [Den]; rw [join_txt])⟩
    rw [join_sum]
    have : (⟨([] : List Nat).toArray⟩ : Str).length = 0 := rfl
    rw [this]
    omega⟩
/-! ### slices -/
def PartD (Γ : Ga) (o : Option Expr) (env : List Sl) (k : Option Int) : Prop := (o = none ∧ k = none) ∨ ∃ e i, o = some e ∧ k = some i ∧ XE Γ e env (.i i)
theorem part_none : PartD Γ none env none := .inl ⟨rfl, rfl⟩
theorem part_some {i : Int} (h : XE Γ e env (.i i)) : PartD Γ (some e) env (some i) := .inr ⟨e, i, rfl, rfl, h⟩
def rPart (Γ : Ga) : Option Expr → L2.TO
  | none => tNoPart
  | some e => tPart (rE Γ e)
theorem po_r {lo : Option Expr} (ok : r.Ok Γ) : PO (Γ.cx r) lo (rPart Γ lo) := by
  cases lo with
  | none => exact po_none
  | some e => exact po_some (pe_r ok)
theorem PartD.rd {lo : Option Expr} {k : Option Int} (h : PartD Γ lo env k) (at0 : At Γ.en L H0 P env σ H) {Q : Option Int → Hp → Prop} (q : ∀ H', Ex H H' → Q k H') : rPart Γ lo σ H Q := by
  rcases h with ⟨rfl, rfl⟩ | ⟨e, i, rfl, rfl, h⟩
  · exact q H (Ex.refl H)
  · exact h.rd at0 fun v H1 e1 h1 => ⟨i, by simpa only [Den] using h1, q H1 e1⟩
def cutD {α : Type} (xs : List α) (lo hi : Option Int) : List α := (xs.drop (HT.sIx xs.length 0 lo)).take (HT.sIx xs.length xs.length hi - HT.sIx xs.length 0 lo)
theorem xe_slS {lo hi : Option Expr} {k l : Option Int} {x : List Nat} {p2 : Pos} (ha : XE Γ a env (.s x)) (h1 : PartD Γ lo env k) (h2 : PartD Γ hi env l) (hl : x.length ≤ 100000) : XE Γ (.Subscript a (.Slice lo hi none p2) pos) env (.s (cutD x k l)) := xe_of fun r o =>
  ⟨_, pe_slice sl_str (pe_r o) (po_r o) (po_r o), fun σ H H0 L P Q at0 q => ha.rd at0 fun v H1 e1 g1 => h1.rd (at0.grow e1) fun H2 e2 => h2.rd (at0.grow (e1.trans e2)) fun H3 e3 => by
    simp only [Den] at g1
    subst g1
    refine ⟨_, rfl, sz (by rw [str_len]; exact hl), q _ H3 ((e1.trans e2).trans e3) ?_⟩
    simp only [Den, cutS, cutD]
    rw [str_len]⟩
theorem cutV_den {E : En} {vs : List V} (k l : Option Int) (h : DenL E H ds vs) : DenL E H (cutD ds k l) (cutV vs k l) := by
  unfold cutD cutV
  rw [h.len]
  exact (h.drop _).take _
theorem xe_slL {lo hi : Option Expr} {k l : Option Int} {p2 : Pos} (ha : XE Γ a env (.l ds)) (h1 : PartD Γ lo env k) (h2 : PartD Γ hi env l) : XE Γ (.Subscript a (.Slice lo hi none p2) pos) env (.l (cutD ds k l)) := xe_of fun r o =>
  ⟨_, pe_slice (sl_list (X := Γ.cx r)) (pe_r o) (po_r o) (po_r o), fun σ H H0 L P Q at0 q => ha.rd at0 fun v H1 e1 g1 => h1.rd (at0.grow e1) fun H2 e2 => h2.rd (at0.grow (e1.trans e2)) fun H3 e3 => by
    have g2 := g1.mono (hid_mono (e2.trans e3))
    simp only [Den] at g2
    obtain ⟨p, vs, rfl, g3, g4⟩ := g2
    exact ⟨p, vs, rfl, SqL.of (hid_sub _ _ g3), fun z hz => q _ _ (((e1.trans e2).trans e3).trans (Ex.new hz)) (den_lst hz (at0.grow ((e1.trans e2).trans e3)).tr (cutV_den k l g4))⟩⟩
/-- xs[::-1] of a list -/
theorem xe_revL {k : Nat} {p1 p2 p3 : Pos} (ha : XE Γ a env (.l ds)) : XE Γ (.Subscript a (.Slice none none (some (.UnaryOp .USub (.Constant (.int 1) k p1) p2)) p3) pos) env (.l ds.reverse) := xe_of fun r o =>
  ⟨_, pe_revL (X := Γ.cx r) (pe_r o), fun σ H H0 L P Q at0 q => ha.rd at0 fun v H1 e1 g1 => by
    simp only [Den] at g1
    obtain ⟨p, vs, rfl, g3, g4⟩ := g1
    exact ⟨p, vs, rfl, SqL.of (hid_sub _ _ g3), fun z hz => q _ _ (e1.trans (Ex.new hz)) (den_lst hz (at0.grow e1).tr g4.rev)⟩⟩
/-! ### what is walked -/
variable {tg iter : Expr}
theorem xi_list (ha : XE Γ iter env (.l ds)) : XI Γ tg iter env ds := ⟨iList Γ.K (rE Γ iter), fun r o => pi_list (X := Γ.cx r) (pe_r o), fun H0 L P σ H R at0 q => ha.rd at0 fun v H1 e1 h1 => by
  simp only [Den] at h1
  obtain ⟨p, vs, rfl, h2, h3⟩ := h1
  refine ⟨p, rfl, ⟨vs, SqL.of (hid_sub _ _ h2)⟩, q _ H1 e1 ?_⟩
  unfold WalkD
  rw [← h3.len]
  refine walk_list.mono (fun H' e => SqL.of (e _ _ h2)) fun i Ha v Hb hi _ y => ?_
  obtain ⟨d, hd, dn⟩ := h3.getV y.2
  exact ⟨d, hd, .inl ⟨y.1, dn⟩⟩⟩
theorem xi_tup (ha : XE Γ iter env (.t ds)) : XI Γ tg iter env ds := ⟨iTup Γ.K (rE Γ iter), fun r o => pi_tup (X := Γ.cx r) (pe_r o), fun H0 L P σ H R at0 q => ha.rd at0 fun v H1 e1 h1 => by
  simp only [Den] at h1
  obtain ⟨p, vs, rfl, h2, h3⟩ := h1
  refine ⟨p, rfl, ⟨vs, ex_t hid_sub h2⟩, q _ H1 e1 ?_⟩
  unfold WalkD
  rw [← h3.len]
  refine walk_tup.mono (fun H' e => ex_t e h2) fun i Ha v Hb hi _ y => ?_
  obtain ⟨d, hd, dn⟩ := h3.getV y.2
  exact ⟨d, hd, .inl ⟨y.1, dn⟩⟩⟩
theorem xi_q {ns : List Int} (ha : XE Γ iter env (.q ns)) : XI Γ tg iter env (ns.map .i) := ⟨iList Γ.K (rE Γ iter), fun r o => pi_list (X := Γ.cx r) (pe_r o), fun H0 L P σ H R at0 q => ha.rd at0 fun v H1 e1 h1 => by
  simp only [Den] at h1
  obtain ⟨p, rfl, h2⟩ := h1
  refine ⟨p, rfl, ⟨_, ex_l hid_sub h2⟩, q _ H1 e1 ?_⟩
  unfold WalkD
  rw [show (ns.map D.i).length = (ns.map V.int).length by simp]
  refine walk_list.mono (fun H' e => ex_l e h2) fun i Ha v Hb hi _ y => ?_
  have y2 := y.2
  rw [List.getElem?_map] at y2
  cases hn : ns[i]? with
  | none => rw [hn] at y2; cases y2
  | some n =>
    rw [hn] at y2
    cases y2
    exact ⟨.i n, by rw [List.getElem?_map, hn]; rfl, .inl ⟨y.1, by simp only [Den]⟩⟩⟩
theorem xi_str {x : List Nat} (ha : XE Γ iter env (.s x)) : XI Γ tg iter env (x.map fun c => .s [c]) := ⟨_, fun r o => pi_str (X := Γ.cx r) (pe_r o), fun H0 L P σ H R at0 q => ha.rd at0 fun v H1 e1 h1 => by
  simp only [Den] at h1
  subst h1
  refine ⟨_, rfl, q _ H1 e1 ?_⟩
  unfold WalkD
  rw [show (x.map fun c => D.s [c]).length = (⟨x.toArray⟩ : Str).cps.size by simp]
  refine walk_str.mono (fun H' e => trivial) fun i Ha v Hb hi _ y => ?_
  obtain ⟨c, hc, rfl⟩ := y.2
  exact ⟨.s [c], by rw [List.getElem?_map]; simp at hc; rw [hc]; rfl, .inl ⟨y.1, by simp only [Den]⟩⟩⟩
def rangeD (n : Nat) : List D := (List.range n).map fun k : Nat => .i (k : Int)
theorem xi_range {n : Nat} {rp : Pos} (hm : Γ.mg "range" = none) (ha : XE Γ a env (.i (n : Int))) (hn : n ≤ 1000000) (hg : Gl' Γ "range" := by rfl) (hs : ∀ ev : Env, starEach [a] ev = (false, eval a ev) :: starEach [] ev := by intro _; rfl) (hs2 : ∀ ev : Env, starEach [a] ev = [(false, eval a ev)] := by intro _; rfl) : XI Γ tg (.Call (.Name "range" rp) [a] [] pos) env (rangeD n) :=
  ⟨_, fun r o => pi_range1 (X := Γ.cx r) hg hm (pa_r o) (hs2 _), fun H0 L P σ H R at0 q => (xa_cons ha xa_nil hs).rd at0 fun vs H1 e1 h1 => by
    simp only [DenL, Den] at h1
    obtain ⟨v, r, rfl, rfl, rfl⟩ := h1
    refine ⟨n, rfl, by omega, by omega, q _ H1 e1 ?_⟩
    unfold WalkD
    rw [show (rangeD n).length = ((n : Int)).toNat by simp [rangeD]]
    refine walk_range.mono (fun H' e => trivial) fun i Ha v Hb hi _ y => ?_
    refine ⟨.i (i : Int), ?_, .inl ⟨y.1, ?_⟩⟩
    · have hi' : i < n := by simpa using hi
      simp [rangeD, List.getElem?_range hi']
    · rw [y.2]
      simp only [Den, Int.zero_add]⟩
theorem gives_pair {E : En} {f g : Nat → Option V} {fd gd : Nat → Option D} {i : Nat} {Ha Hb : Hp} {v : V} {Hs : Hp} (y : YPair f g i Ha v Hb) (h1 : ∀ i v, f i = some v → ∃ d, fd i = some d ∧ Den E Hs d v) (h2 : ∀ i v, g i = some v → ∃ d, gd i = some d ∧ Den E Hs d v)
    (hds : ∀ i d1 d2, fd i = some d1 → gd i = some d2 → ds[i]? = some (.t [d1, d2])) : Gives E Hs ds i Ha v Hb := by
  obtain ⟨T, x, y, rfl, hT, rfl, hx, hy⟩ := y
  obtain ⟨d1, f1, g1⟩ := h1 _ _ hx
  obtain ⟨d2, f2, g2⟩ := h2 _ _ hy
  exact ⟨_, hds i d1 d2 f1 f2, .inr ⟨T, _, _, rfl, hT, rfl, rfl, g1.cons (g2.cons DenL.nil)⟩⟩
def zipD (xs ys : List D) : List D := (xs.zip ys).map fun p => .t [p.1, p.2]
theorem zipD_get {xs ys : List D} {i : Nat} {d1 d2 : D} (h1 : xs[i]? = some d1) (h2 : ys[i]? = some d2) : (zipD xs ys)[i]? = some (.t [d1, d2]) := by
  unfold zipD
  rw [List.getElem?_map, List.getElem?_zip_eq_some (z := (d1, d2)) |>.mpr ⟨h1, h2⟩]
  rfl
theorem xi_zipS {x y : List Nat} {zp tpos : Pos} {elts : List Expr} {kk : Nat} (hm : Γ.mg "zip" = none) (ha : XE Γ a env (.s x)) (hb : XE Γ b env (.s y)) (hg : Gl' Γ "zip" := by rfl)
    (hs : ∀ ev : Env, starEach [a, b] ev = (false, eval a ev) :: starEach [b] ev := by intro _; rfl) (hs2 : ∀ ev : Env, starEach [b] ev = (false, eval b ev) :: starEach [] ev := by intro _; rfl) (hpl : ∀ ev : Env, (backTo pos (starEach [b] ev)).any (·.1) = false := by intro _; rfl) :
    XI Γ (.Tuple elts kk tpos) (.Call (.Name "zip" zp) [a, b] [] pos) env (zipD (x.map fun c => .s [c]) (y.map fun c => .s [c])) :=
  ⟨_, fun r o => pi_zipS (X := Γ.cx r) hg hm (pa_r o) (hs _) (hpl _), fun H0 L P σ H R at0 q => (xa_cons ha (xa_cons hb xa_nil hs2) hs).rd at0 fun vs H1 e1 h1 => by
    simp only [DenL, Den] at h1
    obtain ⟨v, r, rfl, rfl, w, r', rfl, rfl, rfl⟩ := h1
    refine ⟨_, _, rfl, q _ H1 e1 ?_⟩
    unfold WalkD
    rw [show (zipD (x.map fun c => D.s [c]) (y.map fun c => D.s [c])).length = min (⟨x.toArray⟩ : Str).cps.size (⟨y.toArray⟩ : Str).cps.size by simp [zipD]]
    refine walk_zipS.mono (fun H' e => trivial) fun i Ha v Hb hi _ y => ?_
    refine gives_pair (fd := fun i => (x.map fun c => D.s [c])[i]?) (gd := _) y (fun i v h => ?_) (fun i v h => ?_) (fun i d1 d2 h1 h2 => zipD_get h1 h2)
    · simp only [Option.map_eq_some_iff] at h
      obtain ⟨c, hc, rfl⟩ := h
      exact ⟨.s [c], by rw [List.getElem?_map]; simp at hc; rw [hc]; rfl, by simp only [Den]⟩
    · simp only [Option.map_eq_some_iff] at h
      obtain ⟨c, hc, rfl⟩ := h
      exact ⟨.s [c], by rw [List.getElem?_map]; simp at hc; rw [hc]; rfl, by simp only [Den]⟩⟩
theorem xi_zipT {xs ys : List D} {zp tpos : Pos} {elts : List Expr} {kk : Nat} (hm : Γ.mg "zip" = none) (ha : XE Γ a env (.t xs)) (hb : XE Γ b env (.t ys)) (hg : Gl' Γ "zip" := by rfl)
    (hs : ∀ ev : Env, starEach [a, b] ev = (false, eval a ev) :: starEach [b] ev := by intro _; rfl) (hs2 : ∀ ev : Env, starEach [b] ev = (false, eval b ev) :: starEach [] ev := by intro _; rfl) (hpl : ∀ ev : Env, (backTo pos (starEach [b] ev)).any (·.1) = false := by intro _; rfl) :
    XI Γ (.Tuple elts kk tpos) (.Call (.Name "zip" zp) [a, b] [] pos) env (zipD xs ys) :=
  ⟨RZ.iZipA Γ.K (rA Γ [a, b]), fun r o => RZ.pi_zipA (X := Γ.cx r) hg hm (pa_r o) (hs _) (hpl _), fun H0 L P σ H R at0 q => (xa_cons ha (xa_cons hb xa_nil hs2) hs).rd at0 fun vs H1 e1 h1 => by
    simp only [DenL, Den] at h1
    obtain ⟨v, r, rfl, ⟨p, vs, rfl, g1, g2⟩, w, r', rfl, ⟨p', ws, rfl, g3, g4⟩, rfl⟩ := h1
    refine ⟨p, p', vs, ws, rfl, .inr ⟨ex_t hid_sub g1, ex_t hid_sub g3, q _ H1 e1 ?_⟩⟩
    unfold WalkD
    rw [show (zipD xs ys).length = min vs.length ws.length by simp [zipD, g2.len, g4.len]]
    refine (walk_zipT rfl).mono (fun H' e => ⟨ex_t e g1, ex_t e g3⟩) fun i Ha v Hb hi _ y => ?_
    exact gives_pair (fd := fun i => xs[i]?) (gd := fun i => ys[i]?) y (fun i v h => g2.getV h) (fun i v h => g4.getV h) (fun i d1 d2 h1 h2 => zipD_get h1 h2)⟩
def enumD (xs : List D) : List D := zipD ((List.range xs.length).map fun k : Nat => .i (k : Int)) xs
theorem xi_enumT {xs : List D} {zp tpos : Pos} {elts : List Expr} {kk : Nat} (hm : Γ.mg "enumerate" = none) (ha : XE Γ a env (.t xs)) (hg : Gl' Γ "enumerate" := by rfl)
    (hs : ∀ ev : Env, starEach [a] ev = [(false, eval a ev)] := by intro _; rfl) (hs2 : ∀ ev : Env, starEach [a] ev = (false, eval a ev) :: starEach [] ev := by intro _; rfl) :
    XI Γ (.Tuple elts kk tpos) (.Call (.Name "enumerate" zp) [a] [] pos) env (enumD xs) :=
  ⟨iEnumT Γ.K (rA Γ [a]), fun r o => pi_enumT (X := Γ.cx r) hg hm (pa_r o) (hs _), fun H0 L P σ H R at0 q => (xa_cons ha xa_nil hs2).rd at0 fun vs H1 e1 h1 => by
    simp only [DenL, Den] at h1
    obtain ⟨v, r, rfl, ⟨p, vs, rfl, g1, g2⟩, rfl⟩ := h1
    refine ⟨p, vs, rfl, ex_t hid_sub g1, q _ H1 e1 ?_⟩
    unfold WalkD
    rw [show (enumD xs).length = vs.length by simp [enumD, zipD, g2.len]]
    refine walk_enumT.mono (fun H' e => ex_t e g1) fun i Ha v Hb hi _ y => ?_
    refine gives_pair (fd := fun i => some (.i (i : Int))) (gd := fun i => xs[i]?) y (fun i' v h => ?_) (fun i v h => g2.getV h) (fun i d1 d2 h1 h2 => ?_)
    · cases h
      exact ⟨_, rfl, by simp only [Den]⟩
    · have hi : i < xs.length := (List.getElem?_eq_some_iff.mp h2).1
      refine zipD_get ?_ h2
      rw [List.getElem?_map, List.getElem?_range hi]
      exact h1⟩
end
end Q8
/-! Owned things, calls of the text's defs, defs. -/
namespace Q8
open PySem L2
section
variable {Γ : Ga} {r : Rt} {e a b c o : Expr} {es : List Expr} {env env' : List Sl} {d d' d1 d2 d3 : D} {ds : List D} {H H0 H' : Hp} {L P : List (Option Addr)} {σ : L2.St} {pos p apos : Pos} {x : Str} {i : Nat}
/-! ### owned things -/
/-- the owned thing in slot i changes -/
theorem At.mut {q : Addr} {ob : HO} {s' : Sl} (a : At Γ.en L H0 P env σ H) (hP : P[i]? = some (some q)) (hi : i < env.length) (hs : SlOk Γ.en P (upd H q ob) i σ[i]? s') : At Γ.en L H0 P (env.set i s') σ (upd H q ob) := by
  have hm : some q ∈ P := List.mem_of_getElem? hP
  have e : hid P (upd H q ob) = hid P H := hid_upd hm
  have hnl := a.nl hP hi
  refine ⟨fun c u z => by
    have := vis_some.mp (a.ex c u z)
    have hc : c ≠ q := by
      rintro rfl
      exact this.1.elim hnl fun k => k hm
    exact vis_some.mpr ⟨this.1, by rw [upd_ne hc]; exact this.2⟩, by simp [a.ls], by simpa using a.lp, by rw [List.length_set]; exact a.xt, a.nd, fun y hy => ?_, fun j s hj => ?_⟩
  · by_cases c : y = q
    · subst c; exact ⟨ob, upd_same⟩
    · obtain ⟨u, hu⟩ := a.tr y hy
      exact ⟨u, by rw [upd_ne c]; exact hu⟩
  · by_cases c : i = j
    · subst c
      rw [List.getElem?_set_self hi] at hj
      cases hj
      exact hs
    · rw [List.getElem?_set_ne c] at hj
      have h := a.sl j s hj
      have ne : ∀ y, P[j]? = some (some y) → (upd H q ob) y = H y := fun y hy => upd_ne fun z => c (a.nd i j q hP (by rw [hy, z]))
      cases s with
      | no => exact h
      | v d => obtain ⟨x, h1, h2, h3⟩ := h; exact ⟨x, h1, by rw [e]; exact h2, h3⟩
      | ol ds => obtain ⟨p, vs, h1, h2, h3, h4⟩ := h; exact ⟨p, vs, h1, h2, by rw [ne p h2]; exact h3, by rw [e]; exact h4⟩
      | ok ds => obtain ⟨p, vs, h1, h2, h3, h4⟩ := h; exact ⟨p, vs, h1, h2, by rw [ne p h2]; exact h3, by rw [e]; exact h4⟩
      | oi p dx c ds => obtain ⟨vs, h1, h2, h3, h5, h4⟩ := h; exact ⟨vs, h1, h2, by rw [ne p h2]; exact h3, h5, by rw [e]; exact h4⟩
/-- a new thing is owned by slot i -/
theorem At.own {q : Addr} {s' : Sl} (a : At Γ.en L H0 P env σ H) (e : Ex H H') (hq : H q = none) (hq' : ∃ ob, H' q = some ob) (hi : i < env.length) (hs : SlOk Γ.en (P.set i (some q)) H' i (some (some (.ref q))) s') : At Γ.en L H0 (P.set i (some q)) (env.set i s') (σ.set i (some (.ref q))) H' := by
  have hn : some q ∉ P := fresh_hid hq a.tr
  have e1 : Ex (hid P H) (hid (P.set i (some q)) H') := fun c u hc => by
    obtain ⟨h1, h2⟩ := hid_some.mp hc
    refine hid_some.mpr ⟨fun z => ?_, e _ _ h2⟩
    rcases mem_set z with z | z
    · exact h1 z
    · cases z; rw [hq] at h2; cases h2
  have hiP : i < P.length := Nat.lt_of_lt_of_le hi a.lp
  refine ⟨a.ex.trans (vis_of e e1), by simp [a.ls], by simpa using a.lp, ?_, fun j k y h1 h2 => ?_, fun y hy => ?_, fun j s hj => ?_⟩
  · rw [List.length_set]
    have := setP_drop (P := P) (i := i) (n := env.length) (x := some q)
    rw [setP_in hi] at this
    rw [this]; exact a.xt
  · by_cases c1 : i = j <;> by_cases c2 : i = k
    · exact c1.symm.trans c2
    · subst c1
      rw [List.getElem?_set_self hiP] at h1
      rw [List.getElem?_set_ne c2] at h2
      cases h1
      exact absurd (List.mem_of_getElem? h2) hn
    · subst c2
      rw [List.getElem?_set_self hiP] at h2
      rw [List.getElem?_set_ne c1] at h1
      cases h2
      exact absurd (List.mem_of_getElem? h1) hn
    · rw [List.getElem?_set_ne c1] at h1
      rw [List.getElem?_set_ne c2] at h2
      exact a.nd j k y h1 h2
  · rcases mem_set hy with z | z
    · obtain ⟨u, hu⟩ := a.tr y z
      exact ⟨u, e _ _ hu⟩
    · cases z; exact hq'
  · by_cases c : i = j
    · subst c
      rw [List.getElem?_set_self hi] at hj
      cases hj
      rw [List.getElem?_set_self (by rw [← a.ls]; exact hi)]
      exact hs
    · rw [List.getElem?_set_ne c] at hj
      rw [List.getElem?_set_ne c]
      have h := a.sl j s hj
      have qe : (P.set i (some q))[j]? = P[j]? := List.getElem?_set_ne c
      cases s with
      | no => exact fun p z => h p (qe.symm.trans z)
      | v d => obtain ⟨x, h1, h2, h3⟩ := h; exact ⟨x, h1, h2.mono e1, fun p z => h3 p (qe.symm.trans z)⟩
      | ol ds => obtain ⟨p, vs, h1, h2, h3, h4⟩ := h; exact ⟨p, vs, h1, qe.trans h2, e _ _ h3, h4.mono e1⟩
      | ok ds => obtain ⟨p, vs, h1, h2, h3, h4⟩ := h; exact ⟨p, vs, h1, qe.trans h2, e _ _ h3, h4.mono e1⟩
      | oi p dx c ds => obtain ⟨vs, h1, h2, h3, h5, h4⟩ := h; exact ⟨vs, h1, qe.trans h2, e _ _ h3, h5, h4.mono e1⟩
/-- e makes a new list of these, a new dict of these -/
def NewOk (E : En) (P : List (Option Addr)) (q : Addr) (H' : Hp) : Sl → Prop
  | .ol ds => ∃ vs, H' q = some (.lst vs) ∧ DenL E (hid (P ++ [some q]) H') ds vs
  | .ok kvs => ∃ ws, H' q = some (.dK ws) ∧ DenK E (hid (P ++ [some q]) H') kvs ws
  | _ => False
structure XN (Γ : Ga) (e : Expr) (env : List Sl) (s : Sl) : Prop where
  run : ∀ (r : Rt), r.Ok Γ → ∀ (pins : List (Addr × Obj)) (s1 : Shared) (σ : L2.St) (H H0 : Hp) (L P : List (Option Addr)) (Q : VK),
  L2.Inv (Γ.cx r) pins σ H s1 → At Γ.en L H0 P env σ H → (∀ q H', H q = none → Ex H H' → NewOk Γ.en P q H' s → Q (.ref q) H') → wpAny (model Γ.P Γ.w) r.A (eval e (Γ.cx r).env) (EP (Γ.cx r) pins σ Q) (fun _ _ => False) s1
def rN (Γ : Ga) (e : Expr) : TE := fun σ H Q => ∃ env s H0 L P, XN Γ e env s ∧ At Γ.en L H0 P env σ H ∧ ∀ q H', H q = none → Ex H H' → NewOk Γ.en P q H' s → Q (.ref q) H'
theorem pe_n (ok : r.Ok Γ) : PE (Γ.cx r) e (rN Γ e) := ⟨fun pins s σ H Q I ⟨_, _, _, _, _, h, a, q⟩ => h.run r ok pins s σ H _ _ _ Q I a q⟩
theorem xn_of {s : Sl} (h : ∀ r : Rt, r.Ok Γ → ∃ t : TE, PE (Γ.cx r) e t ∧ ∀ σ H H0 L P Q, At Γ.en L H0 P env σ H → (∀ q H', H q = none → Ex H H' → NewOk Γ.en P q H' s → Q (.ref q) H') → t σ H Q) : XN Γ e env s := by
  refine ⟨fun r o pins s1 σ H H0 L P Q I a q => ?_⟩
  obtain ⟨t, h1, h2⟩ := h r o
  exact h1.run pins s1 σ H Q I (h2 σ H H0 L P Q a q)
theorem hid_fresh {q : Addr} {ob : HO} (hq : H q = none) : Ex (hid P H) (hid (P ++ [some q]) (upd H q ob)) := fun c u hc => by
  obtain ⟨h1, h2⟩ := hid_some.mp hc
  refine hid_some.mpr ⟨fun z => ?_, by rw [upd_ne (ne_of_none h2 hq)]; exact h2⟩
  rcases List.mem_append.mp z with z | z
  · exact h1 z
  · have : c = q := by simpa using z
    rw [this, hq] at h2; cases h2
theorem fresh_ex {q : Addr} (e : Ex H H') (h : H' q = none) : H q = none := Evl.fresh_back e h
theorem xn_lst (h : XA Γ es env ds) (hl : ds.length ≤ 100000 := by simp) : XN Γ (.List es pos) env (.ol ds) := xn_of fun r o =>
  ⟨_, pe_lst (pa_r o), fun σ H H0 L P Q at0 q => h.rd at0 fun vs H1 e1 h1 => ⟨Evl.sz_of (by rw [h1.len]; exact hl), fun p hp => q p _ (fresh_ex e1 hp) (e1.trans (Ex.new hp)) ⟨vs, upd_same, h1.mono (hid_fresh hp)⟩⟩⟩
theorem xn_addL {xs ys : List D} (ha : XE Γ a env (.l xs)) (hb : XE Γ b env (.l ys)) (hl : xs.length + ys.length ≤ 100000) : XN Γ (.BinOp a .Add b pos) env (.ol (xs ++ ys)) := xn_of fun r o =>
  ⟨_, pe_op op_cat (pe_r o) (pe_r o), fun σ H H0 L P Q at0 q => ha.rd at0 fun v H1 e1 h1 => hb.rd (at0.grow e1) fun u H2 e2 h2 => by
    have h1' := h1.mono (hid_mono e2)
    simp only [Den] at h1' h2
    obtain ⟨p, vs, rfl, g1, g2⟩ := h1'
    obtain ⟨p', ws, rfl, g3, g4⟩ := h2
    exact ⟨p, p', vs, ws, rfl, rfl, hid_sub _ _ g1, hid_sub _ _ g3, sz (by rw [g2.len, g4.len]; exact hl), fun z hz => q z _ (fresh_ex (e1.trans e2) hz) ((e1.trans e2).trans (Ex.new hz)) ⟨_, upd_same, (g2.append g4).mono (hid_fresh hz)⟩⟩⟩
theorem xn_mulL {xs : List D} {n : Nat} (ha : XE Γ a env (.l xs)) (hb : XE Γ b env (.i (n : Int))) (hl : xs.length * n ≤ 100000) (hn : n ≤ 100000) : XN Γ (.BinOp a .Mult b pos) env (.ol (List.replicate n xs).flatten) := xn_of fun r o =>
  ⟨_, pe_op op_rep (pe_r o) (pe_r o), fun σ H H0 L P Q at0 q => ha.rd at0 fun v H1 e1 h1 => hb.rd (at0.grow e1) fun u H2 e2 h2 => by
    have h1' := h1.mono (hid_mono e2)
    simp only [Den] at h1' h2
    obtain ⟨p, vs, rfl, g1, g2⟩ := h1'
    subst h2
    refine ⟨p, n, vs, rfl, rfl, hid_sub _ _ g1, by omega, by omega, sz (by rw [g2.len]; simpa using hl), fun z hz => q z _ (fresh_ex (e1.trans e2) hz) ((e1.trans e2).trans (Ex.new hz)) ⟨_, upd_same, ?_⟩⟩
    rw [Int.toNat_natCast]
    exact (g2.rep n).mono (hid_fresh hz)⟩
theorem xn_dict0 : XN Γ (.Dict [] [] pos) env (.ok []) := xn_of fun r o =>
  ⟨_, pe_dnewK, fun σ H H0 L P Q at0 q => fun p hp => q p _ hp (Ex.new hp) ⟨[], upd_same, by simp only [DenK]⟩⟩
/-- x = a new thing -/
theorem xs_setN (i : Nat) {s : Sl} {pos pos' : Pos} (h : XN Γ e env s) (pt : Put Γ i x) (hi : i < env.length) (hs : ∀ ev : Env, swapsWith e (some (.Name x pos')) pos.line { ev with scope := Γ.sc } = pure false := by intro _; rfl) :
    XS Γ (.Assign [.Name x pos'] e pos) env (.nx (env.set i s)) := xs_of fun r o =>
  ⟨_, ps_set (X := Γ.cx r) pt.nd pt.ix pt.lc (pe_n o) (hs r.env) (pt.fn o), fun σ H H0 L P Dn at0 q => ⟨env, s, H0, L, P, h, at0, fun z H' hz e hn => q _ _ _ (at0.own e hz (by
      cases s with
      | ol ds => obtain ⟨vs, h1, _⟩ := hn; exact ⟨_, h1⟩
      | ok ds => obtain ⟨vs, h1, _⟩ := hn; exact ⟨_, h1⟩
      | _ => exact hn.elim) hi (by
      have hm : Ex (hid (P ++ [some z]) H') (hid (P.set i (some z)) H') := hid_less fun a ha => by
        rcases mem_set ha with k | k
        · exact List.mem_append_left _ k
        · exact List.mem_append_right _ (by rw [k]; simp)
      have hiP : i < P.length := Nat.lt_of_lt_of_le hi at0.lp
      cases s with
      | ol ds => obtain ⟨vs, h1, h2⟩ := hn; exact ⟨z, vs, rfl, List.getElem?_set_self hiP, h1, h2.mono hm⟩
      | ok ds => obtain ⟨vs, h1, h2⟩ := hn; exact ⟨z, vs, rfl, List.getElem?_set_self hiP, h1, h2.mono hm⟩
      | _ => exact hn.elim))⟩⟩
/-- x.append(e) -/
theorem xs_append (i : Nat) {px : Pos} {xs : List D} (he : XE Γ e env d) (hi : env[i]? = some (.ol xs)) (hN : Γ.N[i]? = some x) (hv : Vis Γ.sc x) (hl : xs.length < 16777216)
    (hd : (x == ("__debug__" : Str)) = false := by decide) (hcd : (x == ("__classdict__" : Str)) = false := by decide)
    (hbase : ∀ ev : Env, attributeBase (.Name x px) "append" ev (eval (.Name x px) ev) = eval (.Name x px) ev := by intro _; rfl) (hs1 : ∀ ev : Env, starEach [e] ev = (false, eval e ev) :: starEach [] ev := by intro _; rfl)
    (hfew : ∀ ev : Env, ((backTo p (starEach [e] ev)).all (fun x => !x.1) && (backToKw p (keywordEach [] ev)).all (fun x => x.1.isSome)
      && decide (([e]).length + ([] : List Keyword).length + (if ([] : List Keyword).isEmpty then 0 else 1) < 30)) = true := by intro _; rfl)
    (hline : (apos.endLine == p.line) = true := by rfl) (hpl : ∀ ev : Env, (backTo p (starEach [] ev)).any (·.1) = false := by intro _; rfl)
    (hsw : ∀ ev : Env, swapsWith (.Call (.Attribute (.Name x px) "append" apos) [e] [] p) none pos.line { ev with scope := Γ.sc } = pure false := by intro _; rfl) :
    XS Γ (.Expr (.Call (.Attribute (.Name x px) "append" apos) [e] [] p) pos) env (.nx (env.set i (.ol (xs ++ [d])))) := xs_of fun r o =>
  ⟨tDrop (tBM Γ.K "list" rAppend (tVar i) (rA Γ [e])), ps_expr (pe_bm (X := Γ.cx r) PySem.F.plainAttrs_list PySem.F.slot_list_append PySem.F.type_list_append mt_append (pe_var (X := Γ.cx r) hN hv hd hcd) (pa_r o) (hbase _) (hfew _) hline (hs1 _) (hpl _)) (hsw r.env), fun σ H H0 L P Dn at0 q => by
    obtain ⟨z, vs, h1, h2, h3, h4⟩ := at0.sl i _ hi
    refine ⟨_, h1, Or.inl ⟨rfl, vs, SqL.of h3⟩, ?_⟩
    refine (xa_cons he xa_nil hs1).rd at0 fun us H1 e1 h5 => ?_
    simp only [DenL] at h5
    obtain ⟨v, r', rfl, h6, rfl⟩ := h5
    refine ⟨z, vs, v, rfl, rfl, e1 _ _ h3, (by rw [h4.len, sizeLine_eq]; exact hl), q _ _ _ ((at0.grow e1).mut h2 (List.getElem?_eq_some_iff.mp hi).1 ⟨z, vs ++ [v], h1, h2, upd_same, ?_⟩)⟩
    rw [hid_upd (List.mem_of_getElem? h2)]
    exact (h4.mono (hid_mono e1)).append (h6.cons DenL.nil)⟩
/-- a value that does not lean on the heap -/
def flatD : D → Bool
  | .n => true | .b _ => true | .i _ => true | .s _ => true | .y _ => true | .r _ => true | _ => false
theorem flat_den {E : En} {H1 : Hp} {v : V} (h : flatD d = true) (hd : Den E H d v) : Den E H1 d v := by
  cases d <;> first | (simp only [Den] at hd ⊢; exact hd) | cases h
/-- an owned thing seen as a value -/
def asV : Sl → Option D
  | .ol ds => some (.l ds)
  | .ok kvs => some (.k kvs)
  | _ => none
theorem At.view {s : Sl} {dv : D} (hs : env[i]? = some s) (hv : asV s = some dv) (a : At Γ.en L H0 P env σ H) : At Γ.en L H0 (P.set i none) (env.set i (.v dv)) σ H := by
  have hi := (List.getElem?_eq_some_iff.mp hs).1
  refine a.share hi ?_
  have h := a.sl i s hs
  cases s with
  | ol ds =>
    cases hv
    obtain ⟨p, vs, h1, h2, h3, h4⟩ := h
    refine ⟨p, h1, h2, ?_⟩
    simp only [Den]
    exact ⟨p, vs, rfl, hid_some.mpr ⟨own_out a.nd h2, h3⟩, h4.mono hid_none⟩
  | ok kvs =>
    cases hv
    obtain ⟨p, vs, h1, h2, h3, h4⟩ := h
    refine ⟨p, h1, h2, ?_⟩
    simp only [Den]
    exact ⟨p, vs, rfl, .inl (hid_some.mpr ⟨own_out a.nd h2, h3⟩), h4.mono hid_none⟩
  | _ => cases hv
/-- a flat value reckoned with owned things seen as values -/
theorem xe_view (i : Nat) {s : Sl} {dv : D} (hs : env[i]? = some s) (hv : asV s = some dv) (h : XE Γ e (env.set i (.v dv)) d) (hf : flatD d = true) : XE Γ e env d := ⟨fun r o pins s σ H H0 L P Q I at0 q =>
  h.run r o pins s σ H H0 L _ Q I (at0.view hs hv) fun v H' e1 h1 => q v H' e1 (flat_den hf h1)⟩
theorem xt_view (i : Nat) {s : Sl} {dv : D} {t : Bool} (hs : env[i]? = some s) (hv : asV s = some dv) (h : XT Γ e (env.set i (.v dv)) t) : XT Γ e env t := ⟨fun r o pins s σ H H0 L P Q I at0 q =>
  h.run r o pins s σ H H0 L _ Q I (at0.view hs hv) q⟩
/-- xs[k] = e -/
theorem xs_setL (i : Nat) {px pp : Pos} {xs : List D} {k : Int} (he : XE Γ e env d) (hk : XE Γ b env (.i k)) (hi : env[i]? = some (.ol xs)) (hN : Γ.N[i]? = some x) (hv : Vis Γ.sc x) (h0 : 0 ≤ k) (hl : k < xs.length)
    (hd : (x == ("__debug__" : Str)) = false := by decide) (hcd : (x == ("__classdict__" : Str)) = false := by decide)
    (hs : ∀ ev : Env, swapsWithSole [.Subscript (.Name x px) b pp] e pos.line { ev with scope := Γ.sc } = pure false := by intro _; rfl) (hw : ∀ ev : Env, swappedStores [.Subscript (.Name x px) b pp] e { ev with scope := Γ.sc } = pure none := by intro _; rfl)
    (hasg : ∀ (ev : Env) (v : Value), assign (.Subscript (.Name x px) b pp) ev v = (do
      let ov ← holding [v] (eval (.Name x px) ev)
      let iv ← holding [v, ov] (eval b ev)
      standAt pp
      holding [v, ov, iv] (setItem ov iv v)
      release [v, ov, iv] []) := by intro _ _; rfl) :
    XS Γ (.Assign [.Subscript (.Name x px) b pp] e pos) env (.nx (env.set i (.ol (xs.set k.toNat d)))) := xs_of fun r o =>
  ⟨tAsg (rE Γ e) (gSub (tVar i) (rE Γ b) rSetL), ps_asg (pe_r o) (pg_sub (pe_var (X := Γ.cx r) hN hv hd hcd) (pe_r o) set_list (hasg _)) (hs r.env) (hw r.env), fun σ H H0 L P Dn at0 q => he.rd at0 fun v H1 e1 h1 => by
    obtain ⟨z, vs, g1, g2, g3, g4⟩ := at0.sl i _ hi
    refine ⟨_, g1, hk.rd (at0.grow e1) fun u H2 e2 h2 => ?_⟩
    simp only [Den] at h2
    subst h2
    have hkk : k = (k.toNat : Int) := by omega
    refine ⟨z, vs, k, k.toNat, rfl, rfl, e2 _ _ (e1 _ _ g3), (by have := ixN_nat (n := vs.length) (j := k.toNat) (by rw [g4.len]; omega); rwa [← hkk] at this), q _ _ _ ((at0.grow (e1.trans e2)).mut g2 (List.getElem?_eq_some_iff.mp hi).1 ⟨z, _, g1, g2, upd_same, ?_⟩)⟩
    rw [hid_upd (List.mem_of_getElem? g2)]
    exact (g4.mono (hid_mono (e1.trans e2))).set _ (h1.mono (hid_mono e2))⟩
/-! ### dicts with texts as keys -/
def putD (kvs : List (List Nat × D)) (x : List Nat) (d : D) : List (List Nat × D) := if (kvs.any fun kv => decide (kv.1 = x)) = true then kvs.map (fun kv => if kv.1 = x then (kv.1, d) else kv) else kvs ++ [(x, d)]
def getD (kvs : List (List Nat × D)) (x : List Nat) : Option D := (kvs.find? fun kv => decide (kv.1 = x)).map (·.2)
theorem key_eq {x y : List Nat} : ((Sum.inr ⟨x.toArray⟩ : Key) = Sum.inr ⟨y.toArray⟩) ↔ x = y := by
  constructor
  · intro h; injection h with h; exact str_inj.mp h
  · rintro rfl; rfl
theorem denK_get {E : En} {x : List Nat} : ∀ {kvs : List (List Nat × D)} {ws : List (Key × V)}, DenK E H kvs ws → (getD kvs x = none ∧ valV ws (Sum.inr ⟨x.toArray⟩ : Key) = none) ∨ ∃ d v, getD kvs x = some d ∧ valV ws (Sum.inr ⟨x.toArray⟩ : Key) = some v ∧ Den E H d v
  | [], ws, h => by
    simp only [DenK] at h
    subst h
    exact .inl ⟨rfl, rfl⟩
  | (y, d) :: kvs, ws, h => by
    simp only [DenK] at h
    obtain ⟨v, q, rfl, h1, h2⟩ := h
    by_cases e : y = x
    · subst e
      exact .inr ⟨d, v, by simp [getD], by simp [valV], h1⟩
    · have e1 : getD ((y, d) :: kvs) x = getD kvs x := by simp [getD, List.find?_cons, e]
      have e2 : valV (((Sum.inr ⟨y.toArray⟩ : Key), v) :: q) (Sum.inr ⟨x.toArray⟩ : Key) = valV q (Sum.inr ⟨x.toArray⟩ : Key) := by
        have : ¬ (Sum.inr ⟨y.toArray⟩ : Key) = Sum.inr ⟨x.toArray⟩ := fun z => e (key_eq.mp z)
        simp [valV, List.find?_cons, this]
      rw [e1, e2]
      exact denK_get h2
theorem denK_len {E : En} : ∀ {kvs : List (List Nat × D)} {ws : List (Key × V)}, DenK E H kvs ws → ws.length = kvs.length
  | [], ws, h => by simp only [DenK] at h; subst h; rfl
  | (y, d) :: kvs, ws, h => by
    simp only [DenK] at h
    obtain ⟨v, q, rfl, h1, h2⟩ := h
    simp [denK_len h2]
theorem denK_any {E : En} {x : List Nat} : ∀ {kvs : List (List Nat × D)} {ws : List (Key × V)}, DenK E H kvs ws → (ws.any fun kv => decide (kv.1 = (Sum.inr ⟨x.toArray⟩ : Key))) = (kvs.any fun kv => decide (kv.1 = x))
  | [], ws, h => by simp only [DenK] at h; subst h; rfl
  | (y, d) :: kvs, ws, h => by
    simp only [DenK] at h
    obtain ⟨v, q, rfl, h1, h2⟩ := h
    rw [List.any_cons, List.any_cons, denK_any h2]
    congr 1
    exact decide_eq_decide.mpr key_eq
theorem denK_map {E : En} {x : List Nat} {v : V} (hd : Den E H d v) : ∀ {kvs : List (List Nat × D)} {ws : List (Key × V)}, DenK E H kvs ws → DenK E H (kvs.map fun kv => if kv.1 = x then (kv.1, d) else kv) (ws.map fun kv => if kv.1 = (Sum.inr ⟨x.toArray⟩ : Key) then (kv.1, v) else kv)
  | [], ws, h => by simp only [DenK] at h; subst h; simp only [List.map_nil, DenK]
  | (y, d0) :: kvs, ws, h => by
    simp only [DenK] at h
    obtain ⟨v0, q, rfl, h1, h2⟩ := h
    rw [List.map_cons, List.map_cons]
    by_cases e : y = x
    · subst e
      rw [if_pos rfl, if_pos rfl]
      simp only [DenK]
      exact ⟨v, _, rfl, hd, denK_map hd h2⟩
    · rw [if_neg e, if_neg (fun z => e (key_eq.mp z))]
      simp only [DenK]
      exact ⟨v0, _, rfl, h1, denK_map hd h2⟩
theorem denK_snoc {E : En} {x : List Nat} {v : V} (hd : Den E H d v) : ∀ {kvs : List (List Nat × D)} {ws : List (Key × V)}, DenK E H kvs ws → DenK E H (kvs ++ [(x, d)]) (ws ++ [((Sum.inr ⟨x.toArray⟩ : Key), v)])
  | [], ws, h => by simp only [DenK] at h; subst h; simp only [List.nil_append, DenK]; exact ⟨v, [], rfl, hd, rfl⟩
  | (y, d0) :: kvs, ws, h => by
    simp only [DenK] at h
    obtain ⟨v0, q, rfl, h1, h2⟩ := h
    rw [List.cons_append, List.cons_append]
    simp only [DenK]
    exact ⟨v0, _, rfl, h1, denK_snoc hd h2⟩
theorem denK_put {E : En} {x : List Nat} {v : V} {kvs : List (List Nat × D)} {ws : List (Key × V)} (hd : Den E H d v) (h : DenK E H kvs ws) : DenK E H (putD kvs x d) (putK ws (Sum.inr ⟨x.toArray⟩ : Key) v) := by
  unfold putD putK
  rw [denK_any h]
  split
  · exact denK_map hd h
  · exact denK_snoc hd h
theorem dget_rd {H : Hp} {a : Addr} {kvs : List (Key × V)} {k : Key} (e : Rd H a (.dK kvs)) : DGet H a (kV k) (valV kvs k) := .inl ⟨kvs, k, e, rfl, rfl⟩
theorem xt_inK {y : List Nat} {kvs : List (List Nat × D)} (ha : XE Γ a env (.s y)) (hb : XE Γ b env (.k kvs)) (h1 : behindInMarks .In b = false := by rfl) : XT Γ (.Compare a [.In] [b] pos) env (getD kvs y).isSome := xt_of fun r o =>
  ⟨_, pt_cmp (pc_din o.hu (pe_r o) (pe_r o)) h1, fun σ H H0 L P Q at0 q => ha.rd at0 fun v H1 e1 g1 => hb.rd (at0.grow e1) fun u H2 e2 g2 => by
    simp only [Den] at g1 g2
    subst g1
    obtain ⟨p, ws, rfl, g3, g4⟩ := g2
    refine ⟨p, _, rfl, dget_rd (k := Sum.inr ⟨y.toArray⟩) (rd_ex hid_sub g3), _, rfl, ?_⟩
    rcases denK_get (x := y) g4 with ⟨k1, k2⟩ | ⟨d, v, k1, k2, _⟩ <;> (rw [k2]; rw [k1] at q; exact q H2 (e1.trans e2))⟩
theorem xt_notInK {y : List Nat} {kvs : List (List Nat × D)} (ha : XE Γ a env (.s y)) (hb : XE Γ b env (.k kvs)) (h1 : behindInMarks .NotIn b = false := by rfl) : XT Γ (.Compare a [.NotIn] [b] pos) env (!(getD kvs y).isSome) := xt_of fun r o =>
  ⟨_, pt_cmp (pc_dnotin o.hu (pe_r o) (pe_r o)) h1, fun σ H H0 L P Q at0 q => ha.rd at0 fun v H1 e1 g1 => hb.rd (at0.grow e1) fun u H2 e2 g2 => by
    simp only [Den] at g1 g2
    subst g1
    obtain ⟨p, ws, rfl, g3, g4⟩ := g2
    refine ⟨p, _, rfl, dget_rd (k := Sum.inr ⟨y.toArray⟩) (rd_ex hid_sub g3), _, rfl, ?_⟩
    rcases denK_get (x := y) g4 with ⟨k1, k2⟩ | ⟨d, v, k1, k2, _⟩ <;> (rw [k2]; rw [k1] at q; exact q H2 (e1.trans e2))⟩
theorem xe_inK {y : List Nat} {kvs : List (List Nat × D)} (ha : XE Γ a env (.s y)) (hb : XE Γ b env (.k kvs)) (h1 : behindInMarks .In b = false := by rfl) : XE Γ (.Compare a [.In] [b] pos) env (.b (getD kvs y).isSome) := xe_of fun r o =>
  ⟨_, pe_cmp (pc_din o.hu (pe_r o) (pe_r o)) h1, fun σ H H0 L P Q at0 q => ha.rd at0 fun v H1 e1 g1 => hb.rd (at0.grow e1) fun u H2 e2 g2 => by
    simp only [Den] at g1 g2
    subst g1
    obtain ⟨p, ws, rfl, g3, g4⟩ := g2
    refine ⟨p, _, rfl, dget_rd (k := Sum.inr ⟨y.toArray⟩) (rd_ex hid_sub g3), ?_⟩
    rcases denK_get (x := y) g4 with ⟨k1, k2⟩ | ⟨d, v, k1, k2, _⟩ <;> (rw [k2]; rw [k1] at q; exact q _ H2 (e1.trans e2) (by simp only [Den]; rfl))⟩
/-- d.get(k): a value or None -/
theorem xe_getK {y : List Nat} {kvs : List (List Nat × D)} (ha : XE Γ o env (.k kvs)) (hb : XE Γ e env (.s y)) (m : ∀ r : Rt, r.Ok Γ → M1 (Γ.cx r) o "get" apos e p) : XE Γ (.Call (.Attribute o "get" apos) [e] [] p) env ((getD kvs y).getD .n) := xe_of fun r ok =>
  ⟨_, pe_dget1 ok.hu (pe_r ok) (pe_r ok) (m r ok), fun σ H H0 L P Q at0 q => ha.rd at0 fun v H1 e1 g1 => by
    have g1' := g1
    simp only [Den] at g1'
    obtain ⟨p, ws, rfl, g3, g4⟩ := g1'
    refine ⟨p, rfl, .inl ⟨ws, rd_ex hid_sub g3⟩, hb.rd (at0.grow e1) fun u H2 e2 g2 => ?_⟩
    simp only [Den] at g2
    subst g2
    refine ⟨_, dget_rd (k := Sum.inr ⟨y.toArray⟩) (rd_ex e2 (rd_ex hid_sub g3)), ?_⟩
    rcases denK_get (x := y) (g4.mono (hid_mono e2)) with ⟨k1, k2⟩ | ⟨d, v, k1, k2, k3⟩
    · rw [k2]; rw [k1] at q
      exact q _ H2 (e1.trans e2) (by simp only [Option.getD, Den])
    · rw [k2]; rw [k1] at q
      exact q _ H2 (e1.trans e2) k3⟩
/-- d[k] = e, d owned -/
theorem xs_putK (i : Nat) {px pp : Pos} {kvs : List (List Nat × D)} {y : List Nat} (he : XE Γ e env d) (hk : XE Γ b env (.s y)) (hi : env[i]? = some (.ok kvs)) (hN : Γ.N[i]? = some x) (hv : Vis Γ.sc x) (hl : kvs.length < 16777216)
    (hd : (x == ("__debug__" : Str)) = false := by decide) (hcd : (x == ("__classdict__" : Str)) = false := by decide)
    (hs : ∀ ev : Env, swapsWith e (some (.Subscript (.Name x px) b pp)) pos.line { ev with scope := Γ.sc } = pure false := by intro _; rfl) :
    XS Γ (.Assign [.Subscript (.Name x px) b pp] e pos) env (.nx (env.set i (.ok (putD kvs y d)))) := xs_of fun r o =>
  ⟨sDPut (tVar i) (rE Γ b) (rE Γ e), ps_dput (X := Γ.cx r) o.hu (pe_var (X := Γ.cx r) hN hv hd hcd) (pe_r o) (pe_r o) (hs r.env), fun σ H H0 L P Dn at0 q => he.rd at0 fun v H1 e1 h1 => by
    obtain ⟨z, vs, g1, g2, g3, g4⟩ := at0.sl i _ hi
    refine ⟨_, g1, hk.rd (at0.grow e1) fun u H2 e2 h2 => ?_⟩
    simp only [Den] at h2
    subst h2
    refine ⟨z, _, rfl, DPut.k (k := Sum.inr ⟨y.toArray⟩) (e2 _ _ (e1 _ _ g3)) (by rw [denK_len g4, sizeLine_eq]; exact hl), q _ _ _ ((at0.grow (e1.trans e2)).mut g2 (List.getElem?_eq_some_iff.mp hi).1 ⟨z, _, g1, g2, upd_same, ?_⟩)⟩
    rw [hid_upd (List.mem_of_getElem? g2)]
    exact denK_put (h1.mono (hid_mono e2)) (g4.mono (hid_mono (e1.trans e2)))⟩
end
end Q8
/-! Defs and their contracts; classes. -/
namespace Q8
open PySem L2 PyProof.Rows
/-- the program's standing facts -/
structure Wd where
  P : Program
  w : World
  K : PySem.W.Frag
  mg : Str → Option Value
  base : Heap
  cl : Nat → Addr
abbrev Wd.en (W : Wd) : En := ⟨W.K, W.cl⟩
abbrev Wd.ga (W : Wd) (N : List Str) (sc : Scope) (k : Nat) : Ga := ⟨W.P, W.w, W.K, W.mg, W.base, W.cl, N, sc, k, true⟩
abbrev Ga.wd (Γ : Ga) : Wd := ⟨Γ.P, Γ.w, Γ.K, Γ.mg, Γ.base, Γ.cl⟩
def NdL (L : List (Option Addr)) : Prop := ∀ (i j : Nat) (p : Addr), L[i]? = some (some p) → L[j]? = some (some p) → i = j
/-- a def's promise by data: R arguments result -/
def spD (E : En) (R : List D → D → Prop) : Sp := fun vs H Q _ => ∃ ds d L, R ds d ∧ DenL E (hid L H) ds vs ∧ NdL L ∧ (∀ p, some p ∈ L → ∃ o, H p = some o) ∧ ∀ v H', Ex H H' → Den E (hid L H') d v → Q v H'
/-- a def of the module, by its name, at a level -/
structure Kn (W : Wd) (x : Str) (k : Nat) (R : List D → D → Prop) : Prop where
  ex : ∃ f fd ps, FnOk W.P W.w W.K W.mg W.base CX0 k f fd ps (spD W.en R) ∧ W.mg x = some (.ref f) ∧ PySem.W.keepIn W.K (.ref f) = true ∧ Binds W.K fd ps []
section
variable {Γ : Ga} {r : Rt} {e a b c o : Expr} {es : List Expr} {env env' : List Sl} {d d' d1 d2 d3 : D} {ds : List D} {H H0 H' : Hp} {L P : List (Option Addr)} {σ : L2.St} {pos p apos : Pos} {x : Str} {i : Nat}
theorem spD_of {R : List D → D → Prop} {vs : List V} {E : XK} {Q : VK} (at0 : At Γ.en L H0 P env σ H) (hR : R ds d) (h : DenL Γ.en (hid P H) ds vs) (q : ∀ z H', Ex H H' → Den Γ.en (hid P H') d z → Q z H') : spD Γ.en R (vs ++ []) H Q E := by
  rw [List.append_nil]
  exact ⟨ds, d, P, hR, h, at0.nd, at0.tr, q⟩
theorem xe_call {k : Nat} {R : List D → D → Prop} (F : Kn Γ.wd x k R) (hk : k ≤ Γ.k) (ha : XA Γ (e :: es) env ds) (hR : R ds d) (hg : Gl' Γ x := by rfl) (hdb : (x == ("__debug__" : Str)) = false := by decide)
    (he : ∀ ev : Env, starEach (e :: es) ev = (false, eval e ev) :: starEach es ev := by intro _; rfl) (hpl : ∀ ev : Env, (backTo pos (starEach es ev)).any (·.1) = false := by intro _; rfl) : XE Γ (.Call (.Name x p) (e :: es) [] pos) env d := by
  obtain ⟨f, fd, ps, h1, h2, h3, h4⟩ := F.ex
  exact xe_of fun r o => ⟨_, pe_call (X := Γ.cx r) h1 (o.room.mono hk) hg h2 h3 h4 .nil pass0 (pa_r o) hdb (he _) (hpl _), fun σ H H0 L P Q at0 q => ha.rd at0 fun vs H1 e1 g => spD_of (at0.grow e1) hR g fun z H' e2 g2 => q z H' (e1.trans e2) g2⟩
theorem xe_call0 {k : Nat} {R : List D → D → Prop} (F : Kn Γ.wd x k R) (hk : k ≤ Γ.k) (hR : R [] d) (hg : Gl' Γ x := by rfl) (hdb : (x == ("__debug__" : Str)) = false := by decide) : XE Γ (.Call (.Name x p) [] [] pos) env d := by
  obtain ⟨f, fd, ps, h1, h2, h3, h4⟩ := F.ex
  exact xe_of fun r o => ⟨_, pe_call0 (X := Γ.cx r) h1 (o.room.mono hk) hg h2 h3 h4 .nil pass0 hdb, fun σ H H0 L P Q at0 q => spD_of (Γ := Γ) (vs := []) (E := fun _ _ _ => True) at0 hR DenL.nil q⟩
/-- what a body gives back -/
inductive Gives1 : Out → D → Prop
  | rt (d : D) : Gives1 (.rt d) d
  | nx (env : List Sl) : Gives1 (.nx env) .n
theorem start_at {N : List Str} {vs : List V} {E : En} (h : DenL E (hid L H) ds vs) (nd : NdL L) (tr : ∀ p, some p ∈ L → ∃ o, H p = some o) :
    At E L H (List.replicate (ds.length + (N.length - ds.length)) none ++ L) (ds.map .v ++ List.replicate (N.length - ds.length) .no) (L2.start N vs) H := by
  have e : hid (List.replicate (ds.length + (N.length - ds.length)) none ++ L) H = hid L H := by
    funext c
    unfold hid
    have : (some c ∈ List.replicate (ds.length + (N.length - ds.length)) none ++ L) ↔ some c ∈ L := by
      rw [List.mem_append, List.mem_replicate]
      simp
    by_cases hc : some c ∈ L
    · rw [if_pos hc, if_pos (this.mpr hc)]
    · rw [if_neg hc, if_neg (fun z => hc (this.mp z))]
  have e' : vis L (List.replicate (ds.length + (N.length - ds.length)) none ++ L) H = H := by
    funext c
    unfold vis
    rw [e]
    unfold hid
    split
    · rfl
    · rfl
  have low : ∀ i p, i < ds.length + (N.length - ds.length) → (List.replicate (ds.length + (N.length - ds.length)) none ++ L)[i]? ≠ some (some p) := fun i p hi z => by
    rw [List.getElem?_append_left (by simpa using hi), List.getElem?_replicate, if_pos hi] at z
    cases z
  refine ⟨by rw [e']; exact Ex.refl _, by unfold L2.start; simp [h.len], by simp, by simp, fun i j p h1 h2 => ?_, fun p hp => ?_, fun i s hs => ?_⟩
  · have l1 : ¬ i < ds.length + (N.length - ds.length) := fun z => low i p z h1
    have l2 : ¬ j < ds.length + (N.length - ds.length) := fun z => low j p z h2
    rw [List.getElem?_append_right (by simp; omega)] at h1 h2
    have := nd _ _ p h1 h2
    simp at this
    omega
  · rw [List.mem_append, List.mem_replicate] at hp
    simp at hp
    exact tr p hp
  · have hi := (List.getElem?_eq_some_iff.mp hs).1
    simp at hi
    by_cases c : i < ds.length
    · rw [List.getElem?_append_left (by simpa using c), List.getElem?_map, List.getElem?_eq_getElem c] at hs
      cases hs
      obtain ⟨v, g1, g2⟩ := h.get (List.getElem?_eq_getElem c)
      refine ⟨v, ?_, by rw [e]; exact g2, fun p => low i p (by omega)⟩
      unfold L2.start
      rw [List.getElem?_append_left (by simpa [h.len] using c), List.getElem?_map, g1]
      rfl
    · rw [List.getElem?_append_right (by simpa using c), List.getElem?_replicate] at hs
      split at hs
      · cases hs
        exact fun p => low i p (by omega)
      · cases hs
theorem XSs.go {Γ : Ga} {r : Rt} {st : List Stmt} {out : Out} (h : XSs Γ st env out) (o : r.Ok Γ) : ∃ t, PSs (Γ.cx r) st t ∧ ∀ σ H H0 L P Dn, At Γ.en L H0 P env σ H → Fin Γ L H0 Dn out → t Dn σ H := ⟨rSs Γ st, pss_r o, fun σ H H0 L P Dn at0 q => ⟨_, _, _, _, _, h, at0, q⟩⟩
/-- a def's promise, its body walked -/
theorem fn_mk {W : Wd} {x qual : Str} {params : Arguments} {body : List Stmt} {scope : Scope} {f : Addr} {fd : FuncData} {N ps : List Str} {k : Nat} {R : List D → D → Prop} (F : FunD W.K x qual params body scope [] [] f fd) (S : FnScope N ps scope)
    (hR : ∀ ds d, R ds d → ds.length = ps.length ∧ ∃ out, Gives1 out d ∧ XSs (W.ga N scope k) body (ds.map .v ++ List.replicate (N.length - ps.length) .no) out) : FnOk W.P W.w W.K W.mg W.base CX0 (k + 1) f fd ps (spD W.en R) := by
  refine F.ok S (fun vs H Q E h => ?_) (fun cdv A outer s H vs Q E hr h => ?_)
  · obtain ⟨ds, d, L, hr, hd, _⟩ := h
    rw [hd.len, (hR ds d hr).1]
  · obtain ⟨ds, d, L, hR', hd, nd, tr, q⟩ := h
    obtain ⟨hl, out, hg, hx⟩ := hR ds d hR'
    obtain ⟨t, h1, h2⟩ := XSs.go (r := ⟨A.deeper (envOfC qual scope s.heap.objs.size f cdv), s, H, envOfC qual scope s.heap.objs.size f cdv, outer, envOfC qual scope s.heap.objs.size f cdv :: outer, [], fun _ => true, []⟩) hx ⟨hr, fun _ _ => rfl⟩
    refine ⟨t, PSs.nox h1, ?_⟩
    rw [← hl] at h2
    refine h2 _ _ _ _ _ _ (start_at (N := N) hd nd tr) ?_
    cases hg with
    | rt d => exact fun v H' e g => q v H' e g
    | nx env => exact fun P' σ' H' a => q .non H' (a.ex.trans vis_sub) (by simp only [Den])
/-- THE RULE for a def -/
theorem kn_mk {W : Wd} {x qual : Str} {params : Arguments} {body : List Stmt} {scope : Scope} {f : Addr} {fd : FuncData} {N ps : List Str} {k : Nat} {R : List D → D → Prop} (F : FunD W.K x qual params body scope [] [] f fd) (hm : W.mg x = some (.ref f)) (S : FnScope N ps scope) (hb : Binds W.K fd ps [])
    (hR : ∀ ds d, R ds d → ds.length = ps.length ∧ ∃ out, Gives1 out d ∧ XSs (W.ga N scope k) body (ds.map .v ++ List.replicate (N.length - ps.length) .no) out) : Kn W x (k + 1) R := ⟨f, fd, ps, fn_mk F S hR, hm, F.kp, hb⟩
end
end Q8
/-! Classes: fields, making, methods, specials, isinstance. -/
namespace Q8
open PySem L2 PyProof.Rows
/-- what the head tells of a class -/
structure CFa (K : PySem.W.Frag) (C : Addr) (c : Nat) : Prop where
  cls : Cls K C
  no : ∀ f ∈ flds c, NoAttr K C f
theorem zip_look : ∀ {fs : List Str} {vs : List V} {i : Nat} {f : Str} {v : V}, fs.Nodup → fs[i]? = some f → vs[i]? = some v → (fs.zip vs).lookup f = some v
  | [], vs, i, f, v, nd, h, _ => by simp at h
  | g :: fs, [], i, f, v, nd, _, h => by simp at h
  | g :: fs, w :: vs, 0, f, v, nd, h, h' => by
    simp at h h'
    subst h h'
    simp [List.lookup]
  | g :: fs, w :: vs, i + 1, f, v, nd, h, h' => by
    have hm : f ∈ fs := List.mem_of_getElem? (by simpa using h)
    have hne : f ≠ g := by rintro rfl; exact (List.nodup_cons.mp nd).1 hm
    rw [List.zip_cons_cons, List.lookup_cons, show (f == g) = false by simpa using hne]
    exact zip_look (List.nodup_cons.mp nd).2 (by simpa using h) (by simpa using h')
theorem zip_look_none : ∀ {fs : List Str} {vs : List V} {f : Str}, f ∉ fs → (fs.zip vs).lookup f = none
  | [], vs, f, h => by simp
  | g :: fs, [], f, h => by simp
  | g :: fs, w :: vs, f, h => by
    have hne : f ≠ g := by rintro rfl; exact h List.mem_cons_self
    rw [List.zip_cons_cons, List.lookup_cons, show (f == g) = false by simpa using hne]
    exact zip_look_none fun z => h (List.mem_cons_of_mem _ z)
theorem zip_put : ∀ {fs : List Str} {vs : List V} {f : Str} {v : V}, fs.Nodup → fs[vs.length]? = some f → putF f v (fs.zip vs) = fs.zip (vs ++ [v])
  | [], vs, f, v, nd, h => by simp at h
  | g :: fs, [], f, v, nd, h => by
    simp at h
    subst h
    simp [putF]
  | g :: fs, w :: vs, f, v, nd, h => by
    have hm : f ∈ fs := List.mem_of_getElem? (by simpa using h)
    have hne : g ≠ f := by rintro rfl; exact (List.nodup_cons.mp nd).1 hm
    rw [List.zip_cons_cons, List.cons_append, List.zip_cons_cons]
    have := zip_put (v := v) (vs := vs) (List.nodup_cons.mp nd).2 (by simpa using h)
    unfold putF
    first
      | rw [if_neg hne, this]
      | (simp only [hne, if_false]; rw [this])
      | simp [hne, this]
theorem flds_nd : ∀ c, (flds c).Nodup := by
  intro c
  unfold flds
  split <;> decide +kernel
theorem flds_len : ∀ c, (flds c).length < 1000 := by
  intro c
  unfold flds
  split <;> decide
section
variable {Γ : Ga} {r : Rt} {e a b o : Expr} {es : List Expr} {env env' : List Sl} {d d' d1 d2 d3 : D} {ds : List D} {H H0 H' : Hp} {L P : List (Option Addr)} {σ : L2.St} {pos p apos : Pos} {x f : Str} {i c : Nat}
/-- o.f -/
theorem xe_fld (cf : CFa Γ.K (Γ.cl c) c) (i : Nat) (ho : XE Γ o env (.o c ds)) (hf : (flds c)[i]? = some f) (hd : ds[i]? = some d) (hb : ∀ ev : Env, attributeBase o f ev (eval o ev) = eval o ev := by intro _; rfl) : XE Γ (.Attribute o f pos) env d := xe_of fun r ok =>
  ⟨_, pe_fld (pe_r ok) (hb _), fun σ H H0 L P Q at0 q => ho.rd at0 fun v H1 e1 h1 => by
    simp only [Den] at h1
    obtain ⟨p, dx, vs, rfl, g1, g2, g3⟩ := h1
    obtain ⟨v, k1, k2⟩ := g3.get hd
    exact ⟨p, _, dx, _, v, rfl, hid_sub _ _ g1, cf.cls, cf.no f (List.mem_of_getElem? hf), zip_look (flds_nd c) hf k1, q v H1 e1 k2⟩⟩
/-- self.f = e, in __init__ -/
theorem xs_fld (cf : CFa Γ.K (Γ.cl c) c) (i : Nat) {px po : Pos} (he : XE Γ e env d) {z dx : Addr} (hi : env[i]? = some (.oi z dx c ds)) (hN : Γ.N[i]? = some x) (hv : Vis Γ.sc x) (hf : (flds c)[ds.length]? = some f) (hd : (x == ("__debug__" : Str)) = false := by decide) (hcd : (x == ("__classdict__" : Str)) = false := by decide)
    (hs : ∀ ev : Env, swapsWith e (some (.Attribute (.Name x px) f po)) pos.line { ev with scope := Γ.sc } = pure false := by intro _; rfl) :
    XS Γ (.Assign [.Attribute (.Name x px) f po] e pos) env (.nx (env.set i (.oi z dx c (ds ++ [d])))) := xs_of fun r ok =>
  ⟨sFld Γ.K (tVar i) (rE Γ e) f, ps_fld (X := Γ.cx r) (pe_var (X := Γ.cx r) hN hv hd hcd) (pe_r ok) (hs r.env), fun σ H H0 L P Dn at0 q => he.rd at0 fun v H1 e1 h1 => by
    obtain ⟨vs, g1, g2, g3, g4, g5⟩ := at0.sl i _ hi
    have hl : (flds c)[vs.length]? = some f := by rw [g5.len]; exact hf
    refine ⟨_, g1, z, _, dx, _, rfl, e1 _ _ g3, cf.cls, cf.no f (List.mem_of_getElem? hf), ?_, q _ _ _ ((at0.grow e1).mut g2 (List.getElem?_eq_some_iff.mp hi).1 ⟨vs ++ [v], g1, g2, ?_, ?_, ?_⟩)⟩
    · rw [List.length_zip]; have := flds_len c; omega
    · rw [upd_same, zip_put (flds_nd c) hl]
    · rw [List.length_append]; have := (List.getElem?_eq_some_iff.mp hl).1; simp; omega
    · rw [hid_upd (List.mem_of_getElem? g2)]
      exact (g5.mono (hid_mono e1)).append (h1.cons DenL.nil)⟩
/-! ### making -/
/-- __init__'s promise -/
def spI (E : En) (c : Nat) (R : List D → List D → Prop) : Sp := fun vs H Q _ => ∃ p dx us as ds L, vs = .ref p :: us ∧ H p = some (.ins (E.cl c) dx []) ∧ some p ∉ L ∧ NdL L ∧ (∀ p, some p ∈ L → ∃ o, H p = some o) ∧ DenL E (hid (some p :: L) H) as us ∧ R as ds ∧ ds.length = (flds c).length ∧
  ∀ H' ws, (∀ a o, a ≠ p → H a = some o → H' a = some o) → H' p = some (.ins (E.cl c) dx ((flds c).zip ws)) → DenL E (hid L H') ds ws → Q .non H'
structure KnI (W : Wd) (x : Str) (c : Nat) (k : Nat) (R : List D → List D → Prop) : Prop where
  ex : ∃ f fd ps, FnOk W.P W.w W.K W.mg W.base CX0 k f fd ps (spI W.en c R) ∧ W.mg x = some (.ref (W.cl c)) ∧ Mk W.K (W.cl c) f ∧ Binds W.K fd ps []
theorem xe_make {k : Nat} {R : List D → List D → Prop} (F : KnI Γ.wd x c k R) (hk : k + 1 ≤ Γ.k) (ha : XA Γ (e :: es) env d2s) (hR : R d2s ds) (hl : ds.length = (flds c).length := by rfl) (hg : Gl' Γ x := by rfl) (hdb : (x == ("__debug__" : Str)) = false := by decide)
    (he : ∀ ev : Env, starEach (e :: es) ev = (false, eval e ev) :: starEach es ev := by intro _; rfl) (hpl : ∀ ev : Env, (backTo pos (starEach es ev)).any (·.1) = false := by intro _; rfl) : XE Γ (.Call (.Name x p) (e :: es) [] pos) env (.o c ds) := by
  obtain ⟨f, fd, ps, h1, h2, h3, h4⟩ := F.ex
  refine xe_of fun r ok => ⟨_, pe_make (X := Γ.cx r) h3 h1 (ok.room.mono hk) hg h2 h4 .nil pass0 (pa_r ok) hdb (he _) (hpl _), fun σ H H0 L P Q at0 q => ha.rd at0 fun vs H1 e1 g => ?_⟩
  intro y dx hy hdx hne
  have at1 := at0.grow e1
  have fy := fresh_hid hy at1.tr
  have fdx := fresh_hid hdx at1.tr
  have e2 : Ex H1 (upd (upd H1 dx (.own y)) y (.ins (Γ.cl c) dx [])) := fun a o ha => by
    rw [upd_ne (ne_of_none ha hy), upd_ne (ne_of_none ha hdx)]; exact ha
  rw [List.append_nil]
  refine ⟨y, dx, vs, d2s, ds, P, rfl, upd_same, fy, at1.nd, fun p hp => ?_, ?_, hR, hl, fun H' ws k1 k2 k3 => ⟨rfl, q _ H' (e1.trans fun a o ha => k1 a o (ne_of_none ha hy) (e2 a o ha)) ?_⟩⟩
  · obtain ⟨o, ho⟩ := at1.tr p hp
    exact ⟨o, e2 _ _ ho⟩
  · refine g.mono fun a o ha => ?_
    obtain ⟨z1, z2⟩ := hid_some.mp ha
    refine hid_some.mpr ⟨fun z => ?_, e2 _ _ z2⟩
    rcases List.mem_cons.mp z with z | z
    · cases z; rw [hy] at z2; cases z2
    · exact z1 z
  · simp only [Den]
    exact ⟨y, dx, ws, rfl, hid_some.mpr ⟨fy, k2⟩, by rw [k3.len]; exact hl, k3⟩
theorem kni_mk {W : Wd} {x qual : Str} {params : Arguments} {body : List Stmt} {scope : Scope} {f : Addr} {fd : FuncData} {N ps : List Str} {k : Nat} {x0 : Str} {R : List D → List D → Prop} (F : FunD W.K x0 qual params body scope [] [] f fd) (hm : W.mg x = some (.ref (W.cl c))) (M : Mk W.K (W.cl c) f) (S : FnScope N ps scope) (hb : Binds W.K fd ps [])
    (hN : 0 < N.length)
    (hR : ∀ as ds, R as ds → as.length + 1 = ps.length ∧ ∀ p dx, ∃ env', XSs (W.ga N scope k) body (.oi p dx c [] :: as.map .v ++ List.replicate (N.length - ps.length) .no) (.nx (.oi p dx c ds :: env'))) : KnI W x c (k + 1) R := by
  refine ⟨f, fd, ps, F.ok S (fun vs H Q E h => ?_) (fun cdv A outer s H vs Q E hr h => ?_), hm, M, hb⟩
  · obtain ⟨p, dx, us, as, ds, L, rfl, _, _, _, _, hd, hr, _⟩ := h
    rw [List.length_cons, hd.len, (hR as ds hr).1]
  · obtain ⟨p, dx, us, as, ds, L, rfl, hp, hpL, nd, tr, hd, hr', hlen, q⟩ := h
    obtain ⟨hl, hx⟩ := hR as ds hr'
    obtain ⟨env', hx⟩ := hx p dx
    obtain ⟨t, h1, h2⟩ := XSs.go (r := ⟨A.deeper (envOfC qual scope s.heap.objs.size f cdv), s, H, envOfC qual scope s.heap.objs.size f cdv, outer, envOfC qual scope s.heap.objs.size f cdv :: outer, [], fun _ => true, []⟩) hx ⟨hr, fun _ _ => rfl⟩
    refine ⟨t, PSs.nox h1, ?_⟩
    have hul := hd.len
    have a0 : At W.en L (fun a => if a = p then none else H a) (some p :: List.replicate (as.length + (N.length - ps.length)) none ++ L) (.oi p dx c [] :: as.map .v ++ List.replicate (N.length - ps.length) .no) (L2.start N (.ref p :: us)) H := by
      have mem : ∀ a, some a ∈ some p :: List.replicate (as.length + (N.length - ps.length)) none ++ L ↔ a = p ∨ some a ∈ L := fun a => by
        simp [List.mem_replicate]
      have eh : hid (some p :: List.replicate (as.length + (N.length - ps.length)) none ++ L) H = hid (some p :: L) H := by
        funext a
        unfold hid
        by_cases c1 : a = p ∨ some a ∈ L
        · rw [if_pos ((mem a).mpr c1), if_pos (by simpa using c1)]
        · rw [if_neg (fun z => c1 ((mem a).mp z)), if_neg (fun z => c1 (by simpa using z))]
      have low : ∀ i q, 0 < i → i < 1 + (as.length + (N.length - ps.length)) → (some p :: List.replicate (as.length + (N.length - ps.length)) none ++ L)[i]? ≠ some (some q) := fun i q h0 hi z => by
        obtain ⟨j, rfl⟩ : ∃ j, i = j + 1 := ⟨i - 1, by omega⟩
        rw [List.cons_append, List.getElem?_cons_succ, List.getElem?_append_left (by simp; omega), List.getElem?_replicate, if_pos (by omega)] at z
        cases z
      have hi' : ∀ i q, 1 + (as.length + (N.length - ps.length)) ≤ i → (some p :: List.replicate (as.length + (N.length - ps.length)) none ++ L)[i]? = some (some q) → L[i - (1 + (as.length + (N.length - ps.length)))]? = some (some q) := fun i q h0 z => by
        rw [List.getElem?_append_right (by simp; omega)] at z
        simp only [List.length_cons, List.length_replicate] at z
        rw [← z]; congr 1; omega
      refine ⟨fun a o ha => ?_, by unfold L2.start; simp [hul]; omega, by simp, ?_, fun i j q h1 h2 => ?_, fun q hq => ?_, fun i s hs => ?_⟩
      · by_cases c1 : a = p
        · rw [if_pos c1] at ha; cases ha
        · rw [if_neg c1] at ha
          refine vis_some.mpr ⟨?_, ha⟩
          by_cases c2 : some a ∈ L
          · exact .inl c2
          · exact .inr fun z => ((mem a).mp z).elim c1 c2
      · rw [show (Sl.oi p dx c [] :: as.map Sl.v ++ List.replicate (N.length - ps.length) Sl.no).length = (as.length + (N.length - ps.length)) + 1 by simp, List.cons_append, List.drop_succ_cons]
        simp
      · by_cases i0 : i = 0
        · subst i0
          have : p = q := by simpa using h1
          subst this
          by_cases j0 : j = 0
          · exact j0.symm
          · by_cases cj : j < 1 + (as.length + (N.length - ps.length))
            · exact absurd h2 (low j p (by omega) cj)
            · exact absurd (List.mem_of_getElem? (hi' j p (by omega) h2)) hpL
        · by_cases ci : i < 1 + (as.length + (N.length - ps.length))
          · exact absurd h1 (low i q (by omega) ci)
          · have g1 := hi' i q (by omega) h1
            by_cases j0 : j = 0
            · subst j0
              have : p = q := by simpa using h2
              subst this
              exact absurd (List.mem_of_getElem? g1) hpL
            · by_cases cj : j < 1 + (as.length + (N.length - ps.length))
              · exact absurd h2 (low j q (by omega) cj)
              · have := nd _ _ q g1 (hi' j q (by omega) h2)
                omega
      · rcases (mem q).mp hq with rfl | z
        · exact ⟨_, hp⟩
        · exact tr q z
      · cases i with
        | zero =>
          have : Sl.oi p dx c [] = s := by simpa using hs
          subst this
          exact ⟨[], by unfold L2.start; simp, by simp, by simpa using hp, by simp, DenL.nil⟩
        | succ i =>
          have hi := (List.getElem?_eq_some_iff.mp hs).1
          simp at hi
          rw [List.cons_append, List.getElem?_cons_succ] at hs
          by_cases c1 : i < as.length
          · rw [List.getElem?_append_left (by simpa using c1), List.getElem?_map, List.getElem?_eq_getElem c1] at hs
            cases hs
            obtain ⟨v, g1, g2⟩ := hd.get (List.getElem?_eq_getElem c1)
            refine ⟨v, ?_, by rw [eh]; exact g2, fun q => low (i + 1) q (by omega) (by omega)⟩
            unfold L2.start
            rw [List.map_cons, List.cons_append, List.getElem?_cons_succ, List.getElem?_append_left (by simpa [hul] using c1), List.getElem?_map, g1]
            rfl
          · rw [List.getElem?_append_right (by simpa using c1), List.getElem?_replicate] at hs
            split at hs
            · cases hs
              exact fun q => low (i + 1) q (by omega) (by omega)
            · cases hs
    refine h2 _ _ _ _ _ _ a0 ?_
    intro P' σ' H' a1
    obtain ⟨vs, g1, g2, g3, g4, g5⟩ := a1.sl 0 (.oi p dx c ds) rfl
    refine q H' vs (fun a o ha ho => vis_sub _ _ (a1.ex a o (by rw [if_neg ha]; exact ho))) g3 (g5.mono (hid_less fun a h => ?_))
    exact a1.lm a h
/-! ### methods -/
structure KnM (W : Wd) (c : Nat) (m : Str) (k : Nat) (R : List D → D → Prop) : Prop where
  ex : ∃ f fd ps, FnOk W.P W.w W.K W.mg W.base CX0 k f fd ps (spD W.en R) ∧ Meth W.K (W.cl c) m f ∧ Binds W.K fd ps []
theorem xe_meth {k : Nat} {m : Str} {d2s : List D} {R : List D → D → Prop} (cf : CFa Γ.K (Γ.cl c) c) (F : KnM Γ.wd c m k R) (hk : k ≤ Γ.k) (ho : XE Γ o env (.o c ds)) (ha : XA Γ (e :: es) env d2s) (hR : R (.o c ds :: d2s) d) (hm : m ∉ flds c := by decide +kernel)
    (he : ∀ ev : Env, starEach (e :: es) ev = (false, eval e ev) :: starEach es ev := by intro _; rfl) (hpl : ∀ ev : Env, (backTo pos (starEach es ev)).any (·.1) = false := by intro _; rfl) {pl : Rt → Sem Bool}
    (ht : ∀ r : Rt, eval (.Call (.Attribute o m apos) (e :: es) [] pos) (Γ.cx r).env = (do
      let ov ← eval o (Γ.cx r).env
      standAt apos.atName
      let (f, first) ← holding [ov] (getMethod ov m (pl r))
      callWith pos f first (backTo pos (starEach (e :: es) (Γ.cx r).env)) (backToKw pos (keywordEach [] (Γ.cx r).env))) := by intro _; rfl) : XE Γ (.Call (.Attribute o m apos) (e :: es) [] pos) env d := by
  obtain ⟨f, fd, ps, h1, h2, h3⟩ := F.ex
  refine xe_of fun r ok => ⟨_, pe_meth (X := Γ.cx r) (pl := pl r) (pe_r ok) cf.cls h2 h1 (ok.room.mono hk) h3 .nil pass0 (pa_r ok) (he _) (hpl _) (ht r), fun σ H H0 L P Q at0 q => ho.rd at0 fun v H1 e1 g1 => ?_⟩
  have g1' := g1
  simp only [Den] at g1'
  obtain ⟨p, dx, vs, rfl, k1, k2, k3⟩ := g1'
  refine ⟨p, dx, _, rfl, hid_sub _ _ k1, zip_look_none hm, ha.rd (at0.grow e1) fun us H2 e2 g2 => ?_⟩
  exact spD_of (vs := .ref p :: us) (at0.grow (e1.trans e2)) hR ((g1.mono (hid_mono e2)).cons g2) fun z H' e3 g3 => q z H' ((e1.trans e2).trans e3) g3
/-! ### properties -/
structure KnP (W : Wd) (c : Nat) (m : Str) (k : Nat) (R : List D → D → Prop) : Prop where
  ex : ∃ f fd ps pa, FnOk W.P W.w W.K W.mg W.base CX0 k f fd ps (spD W.en R) ∧ PropOf W.K (W.cl c) m pa f ∧ Binds W.K fd ps []
theorem xe_prop {k : Nat} {m : Str} {R : List D → D → Prop} (cf : CFa Γ.K (Γ.cl c) c) (F : KnP Γ.wd c m k R) (hk : k + 1 ≤ Γ.k) (ho : XE Γ o env (.o c ds)) (hR : R [.o c ds] d) (hb : ∀ ev : Env, attributeBase o m ev (eval o ev) = eval o ev := by intro _; rfl) : XE Γ (.Attribute o m pos) env d := by
  obtain ⟨f, fd, ps, pa, h1, h2, h3⟩ := F.ex
  refine xe_of fun r ok => ⟨_, pe_prop (X := Γ.cx r) (E := E0) (pe_r ok) cf.cls h2 h1 (ok.room.mono hk) h3 .nil pass0 (hb _), fun σ H H0 L P Q at0 q => ho.rd at0 fun v H1 e1 g1 => ?_⟩
  have g1' := g1
  simp only [Den] at g1'
  obtain ⟨p, dx, vs, rfl, k1, k2, k3⟩ := g1'
  refine ⟨p, dx, _, rfl, hid_sub _ _ k1, ?_⟩
  have := spD_of (Γ := Γ) (E := E0) (vs := [.ref p]) (Q := Q) (at0.grow e1) hR (g1.cons DenL.nil) fun z H' e3 g3 => q z H' (e1.trans e3) g3
  simpa using this
/-! ### len and in of own instances -/
theorem op_inO {X : Cx} {f : Addr} {fd : FuncData} {ps : List Str} {sp : Sp} {k : Nat} (F : FnOk X.prog X.w X.K X.mg X.base CX0 k f fd ps sp) (hr : Room k X.A) (hb : Binds X.K fd ps []) (C : Addr) (hm : Meth X.K C "__contains__" f) : OpR X (compareOp .In) (fun x y H Q => ∃ a dx fs, y = .ref a ∧ H a = some (.ins C dx fs) ∧ sp [.ref a, x] H (fun v H' => ∃ t, v = .bl t ∧ Q (.bl t) H') E0) := by
  rintro pins s σ H x y v u Q I rx ry ⟨a, dx, fs, rfl, ha, hsp⟩
  cases ry
  obtain ⟨mA, J, _⟩ := ins_get I.hok ha
  obtain ⟨od, J, _⟩ := J.look
  obtain ⟨m, hF⟩ := I.fr
  refine PySem.W.in_K hF I.ok.mod.kin J hm.at_ hm.fn ?_
  have := run_fn (us := [.ref a, v]) (vs := [.ref a, x]) (ds := []) (dvs := []) (E := E0) F hr hb .nil pass0 I (.cons rfl (.cons rx .nil)) hsp
  refine wpAny_mono this (fun r s' hq => ?_) fun _ _ z => z
  obtain ⟨v', H', I', rv, t, rfl, q⟩ := hq
  cases rv
  exact wpAny_truthy_bool ⟨.bl t, H', I', rfl, q⟩
theorem op_notInO {X : Cx} {f : Addr} {fd : FuncData} {ps : List Str} {sp : Sp} {k : Nat} (F : FnOk X.prog X.w X.K X.mg X.base CX0 k f fd ps sp) (hr : Room k X.A) (hb : Binds X.K fd ps []) (C : Addr) (hm : Meth X.K C "__contains__" f) : OpR X (compareOp .NotIn) (fun x y H Q => ∃ a dx fs, y = .ref a ∧ H a = some (.ins C dx fs) ∧ sp [.ref a, x] H (fun v H' => ∃ t, v = .bl t ∧ Q (.bl (!t)) H') E0) := by
  rintro pins s σ H x y v u Q I rx ry ⟨a, dx, fs, rfl, ha, hsp⟩
  cases ry
  obtain ⟨mA, J, _⟩ := ins_get I.hok ha
  obtain ⟨od, J, _⟩ := J.look
  obtain ⟨m, hF⟩ := I.fr
  refine PySem.W.notIn_K hF I.ok.mod.kin J hm.at_ hm.fn ?_
  have := run_fn (us := [.ref a, v]) (vs := [.ref a, x]) (ds := []) (dvs := []) (E := E0) F hr hb .nil pass0 I (.cons rfl (.cons rx .nil)) hsp
  refine wpAny_mono this (fun r s' hq => ?_) fun _ _ z => z
  obtain ⟨v', H', I', rv, t, rfl, q⟩ := hq
  cases rv
  exact wpAny_truthy_bool ⟨.bl (!t), H', I', rfl, q⟩
theorem xe_inO {k : Nat} {t : Bool} {R : List D → D → Prop} (F : KnM Γ.wd c "__contains__" k R) (hk : k ≤ Γ.k) (ha : XE Γ a env d1) (hb : XE Γ b env (.o c ds)) (hR : R [.o c ds, d1] (.b t)) (hm : behindInMarks .In b = false := by rfl) : XE Γ (.Compare a [.In] [b] pos) env (.b t) := by
  obtain ⟨f, fd, ps, h1, h2, h3⟩ := F.ex
  refine xe_of fun r ok => ⟨_, pe_cmpR (X := Γ.cx r) (op_inO h1 (ok.room.mono hk) h3 _ h2) (pe_r ok) (pe_r ok) hm, fun σ H H0 L P Q at0 q => ha.rd at0 fun v H1 e1 g1 => hb.rd (at0.grow e1) fun u H2 e2 g2 => ?_⟩
  have g2' := g2
  simp only [Den] at g2'
  obtain ⟨p, dx, vs, rfl, k1, k2, k3⟩ := g2'
  refine ⟨p, dx, _, rfl, hid_sub _ _ k1, ?_⟩
  have := spD_of (Γ := Γ) (E := E0) (vs := [.ref p, v]) (Q := fun v H' => ∃ t, v = .bl t ∧ Q (.bl t) H') (at0.grow (e1.trans e2)) hR (g2.cons ((g1.mono (hid_mono e2)).cons DenL.nil)) fun z H' e3 g3 => ?_
  · simpa using this
  · simp only [Den] at g3
    exact ⟨t, g3, q _ H' ((e1.trans e2).trans e3) (by simp only [Den])⟩
theorem xt_inO {k : Nat} {t : Bool} {R : List D → D → Prop} (F : KnM Γ.wd c "__contains__" k R) (hk : k ≤ Γ.k) (ha : XE Γ a env d1) (hb : XE Γ b env (.o c ds)) (hR : R [.o c ds, d1] (.b t)) (hm : behindInMarks .In b = false := by rfl) : XT Γ (.Compare a [.In] [b] pos) env t := by
  obtain ⟨f, fd, ps, h1, h2, h3⟩ := F.ex
  refine xt_of fun r ok => ⟨_, pt_cmpR (X := Γ.cx r) (op_inO h1 (ok.room.mono hk) h3 _ h2) (pe_r ok) (pe_r ok) hm, fun σ H H0 L P Q at0 q => ha.rd at0 fun v H1 e1 g1 => hb.rd (at0.grow e1) fun u H2 e2 g2 => ?_⟩
  have g2' := g2
  simp only [Den] at g2'
  obtain ⟨p, dx, vs, rfl, k1, k2, k3⟩ := g2'
  refine ⟨p, dx, _, rfl, hid_sub _ _ k1, ?_⟩
  have := spD_of (Γ := Γ) (E := E0) (vs := [.ref p, v]) (Q := fun v H' => ∃ t, v = .bl t ∧ ∃ t', V.bl t = .bl t' ∧ Q t' H') (at0.grow (e1.trans e2)) hR (g2.cons ((g1.mono (hid_mono e2)).cons DenL.nil)) fun z H' e3 g3 => ?_
  · simpa using this
  · simp only [Den] at g3
    exact ⟨t, g3, t, rfl, q H' ((e1.trans e2).trans e3)⟩
theorem xt_notInO {k : Nat} {t : Bool} {R : List D → D → Prop} (F : KnM Γ.wd c "__contains__" k R) (hk : k ≤ Γ.k) (ha : XE Γ a env d1) (hb : XE Γ b env (.o c ds)) (hR : R [.o c ds, d1] (.b t)) (hm : behindInMarks .NotIn b = false := by rfl) : XT Γ (.Compare a [.NotIn] [b] pos) env (!t) := by
  obtain ⟨f, fd, ps, h1, h2, h3⟩ := F.ex
  refine xt_of fun r ok => ⟨_, pt_cmpR (X := Γ.cx r) (op_notInO h1 (ok.room.mono hk) h3 _ h2) (pe_r ok) (pe_r ok) hm, fun σ H H0 L P Q at0 q => ha.rd at0 fun v H1 e1 g1 => hb.rd (at0.grow e1) fun u H2 e2 g2 => ?_⟩
  have g2' := g2
  simp only [Den] at g2'
  obtain ⟨p, dx, vs, rfl, k1, k2, k3⟩ := g2'
  refine ⟨p, dx, _, rfl, hid_sub _ _ k1, ?_⟩
  have := spD_of (Γ := Γ) (E := E0) (vs := [.ref p, v]) (Q := fun v H' => ∃ t, v = .bl t ∧ ∃ t', V.bl (!t) = .bl t' ∧ Q t' H') (at0.grow (e1.trans e2)) hR (g2.cons ((g1.mono (hid_mono e2)).cons DenL.nil)) fun z H' e3 g3 => ?_
  · simpa using this
  · simp only [Den] at g3
    exact ⟨t, g3, !t, rfl, q H' ((e1.trans e2).trans e3)⟩
theorem call_lenO {X : Cx} {f : Addr} {fd : FuncData} {ps : List Str} {sp : Sp} {k : Nat} (F : FnOk X.prog X.w X.K X.mg X.base CX0 k f fd ps sp) (hr : Room (k + 1) X.A) (hb : Binds X.K fd ps []) (C : Addr) (hm : Meth X.K C "__len__" f) : CallR X (.builtin "len") (fun xs H Q => ∃ a dx fs, xs = [.ref a] ∧ H a = some (.ins C dx fs) ∧ sp [.ref a] H (fun v H' => ∃ n : Int, v = .int n ∧ 0 ≤ n ∧ n < 2 ^ 63 ∧ Q (.int n) H') E0) := by
  rintro pins s σ H xs us Q I rx ⟨a, dx, fs, rfl, ha, hsp⟩
  obtain ⟨u, rfl, ry⟩ := vals1 rx
  obtain rfl : u = Value.ref a := ry
  obtain ⟨mA, J, _⟩ := ins_get I.hok ha
  obtain ⟨od, J, _⟩ := J.look
  obtain ⟨m, hF⟩ := I.fr
  refine PySem.W.len_K hF I.ok.mod.kin J hm.at_ hm.fn ?_
  have hl := F.len _ _ _ _ hsp
  refine wpAny_call (codeAny_mono (F.run X.A.in1 X.stack s H ⟨[.ref a], []⟩ [.ref a] [.ref a] _ E0 hr.in1 I.env0.in1 (by simpa using hb s [.ref a] I.kIn (by simpa using hl)) (.cons rfl .nil) hsp) fun r s' hq => ?_)
  cases r with
  | error er => exact hq.elim
  | ok fl =>
    cases fl with
    | ret u =>
      obtain ⟨v, H', I3, rv, n, rfl, h0, h1, q3⟩ := I.after hq
      obtain ⟨t, rfl⟩ := (show ∃ t, u = Value.int n t from rv)
      exact ⟨⟨h0, h1⟩, ⟨.int n, H', I3.tok _, ⟨_, rfl⟩, q3⟩⟩
    | next => exact False.elim hq
    | brk => exact False.elim hq
    | cont => exact False.elim hq
theorem xe_lenO {k : Nat} {n : Nat} {R : List D → D → Prop} (hm0 : Γ.mg "len" = none) (F : KnM Γ.wd c "__len__" k R) (hk : k + 1 ≤ Γ.k) (ha : XE Γ a env (.o c ds)) (hR : R [.o c ds] (.i n)) (hn : n < 2 ^ 62) (hg : Gl' Γ "len" := by rfl) (hs : ∀ ev : Env, starEach [a] ev = (false, eval a ev) :: starEach [] ev := by intro _; rfl) : XE Γ (.Call (.Name "len" p) [a] [] pos) env (.i n) := by
  obtain ⟨f, fd, ps, h1, h2, h3⟩ := F.ex
  refine xe_of fun r ok => ⟨_, pe_callB (X := Γ.cx r) (call_lenO h1 (ok.room.mono hk) h3 _ h2) hg hm0 (by decide +kernel) (pa_cons (X := Γ.cx r) (pe_r ok) pa_nil (hs _)) (by decide) (by decide) (hs _) rfl, fun σ H H0 L P Q at0 q => ha.rd at0 fun v H1 e1 g1 => ?_⟩
  have g1' := g1
  simp only [Den] at g1'
  obtain ⟨p, dx, vs, rfl, k1, k2, k3⟩ := g1'
  refine ⟨p, dx, _, rfl, hid_sub _ _ k1, ?_⟩
  have := spD_of (Γ := Γ) (E := E0) (vs := [.ref p]) (Q := fun v H' => ∃ n : Int, v = .int n ∧ 0 ≤ n ∧ n < 2 ^ 63 ∧ Q (.int n) H') (at0.grow e1) hR (g1.cons DenL.nil) fun z H' e3 g3 => ?_
  · simpa using this
  · simp only [Den] at g3
    exact ⟨n, g3, by omega, by omega, q _ H' (e1.trans e3) (by simp only [Den])⟩
/-! ### isinstance -/
/-- a value's type -/
inductive TyD (cl : Nat → Addr) : D → Value → Prop
  | n : TyD cl .n (.type "NoneType")
  | b (x : Bool) : TyD cl (.b x) (.type "bool")
  | i (x : Int) : TyD cl (.i x) (.type "int")
  | s (x : List Nat) : TyD cl (.s x) (.type "str")
  | l (xs : List D) : TyD cl (.l xs) (.type "list")
  | t (xs : List D) : TyD cl (.t xs) (.type "tuple")
  | k (kvs : List (List Nat × D)) : TyD cl (.k kvs) (.type "dict")
  | o (c : Nat) (ds : List D) : TyD cl (.o c ds) (.ref (cl c))
/-- what the head tells of a class for isinstance -/
structure CIs (K : PySem.W.Frag) (C : Addr) : Prop where
  cl : Cls K C
  ha : PySem.W.findIn K (.ref C) "__class__" = some (some (.builtin "object.__class__"))
  hn : PySem.W.specialIn K (.builtin "object.__class__") "__get__" = some (some (.builtin "getset_descriptor.__get__"))
  htk : PySem.W.takesIn K (.builtin "object.__class__") = some true
  hm : PySem.W.mroIn K C (.type "object") = some true
theorem TyD.ok {t : Value} {v : V} (h : TyD Γ.cl d t) (hc : ∀ c ds, d = .o c ds → CIs Γ.K (Γ.cl c)) (hd : Den Γ.en (hid P H) d v) : TyX Γ.K H v t := by
  cases h with
  | n => simp only [Den] at hd; subst hd; exact .base .non
  | b x => simp only [Den] at hd; subst hd; exact .base (.bl x)
  | i x => simp only [Den] at hd; subst hd; exact .base (.int x)
  | s x => simp only [Den] at hd; subst hd; exact .base (.str _)
  | l xs => simp only [Den] at hd; obtain ⟨p, vs, rfl, h1, h2⟩ := hd; exact .base (.lst (hid_sub _ _ h1))
  | t xs =>
    simp only [Den] at hd
    obtain ⟨p, vs, rfl, h1, h2⟩ := hd
    rcases ex_t hid_sub h1 with (h | ⟨ob, h⟩) | ⟨o, its, n, h, h', _⟩
    · exact .base (.tup h)
    · exact .fTuple h
    · exact .kTuple h h'
  | k kvs =>
    simp only [Den] at hd
    obtain ⟨p, vs, rfl, h1, h2⟩ := hd
    rcases rd_ex hid_sub h1 with h | ⟨ob, h⟩
    · exact .base (.dK h)
    · exact .fDict h
  | o c ds =>
    have hc := hc c ds rfl
    simp only [Den] at hd
    obtain ⟨p, dx, vs, rfl, h1, h2, h3⟩ := hd
    exact .base (.ins (hid_sub _ _ h1) hc.cl hc.ha hc.hn hc.htk hc.hm)
inductive ClD : D → Value → Prop
  | y (n : String) : ClD (.y n) (.type n)
  | r (C : Addr) : ClD (.r C) (.ref C)
theorem ClD.ok {E : En} {u : Value} {v : V} (h : ClD d u) (hd : Den E H d v) : ClsV v u := by
  cases h <;> (simp only [Den] at hd; subst hd)
  · exact .ty _
  · exact .own _
theorem xe_isi {t u : Value} {q : Bool} (hm : Γ.mg "isinstance" = none) (ha : XE Γ a env d1) (hb : XE Γ b env d2) (ht : TyD Γ.cl d1 t) (hu : ClD d2 u) (hk : PySem.W.kitOne Γ.K t u = some q) (hc : ∀ c ds, d1 = .o c ds → CIs Γ.K (Γ.cl c)) (hg : Gl' Γ "isinstance" := by rfl)
    (hs : ∀ ev : Env, starEach [a, b] ev = (false, eval a ev) :: starEach [b] ev := by intro _; rfl) (hs2 : ∀ ev : Env, starEach [b] ev = (false, eval b ev) :: starEach [] ev := by intro _; rfl) (hpl : ∀ ev : Env, (backTo pos (starEach [b] ev)).any (·.1) = false := by intro _; rfl) : XE Γ (.Call (.Name "isinstance" p) [a, b] [] pos) env (.b q) :=
  xe_callB (R := rIsi Γ.K) (fun r _ => call_isi) hm (xa_cons ha (xa_cons hb xa_nil hs2) hs) (fun P H vs Q h1 _ qq => by
    simp only [DenL] at h1
    obtain ⟨v, r, rfl, g1, w, r', rfl, g2, rfl⟩ := h1
    exact ⟨v, w, t, u, q, rfl, hu.ok g2, ht.ok hc g1, hk, qq _ H (Ex.refl H) (by simp only [Den])⟩) hg (by decide +kernel) (by decide) (by decide) hs hpl
inductive ClDs : List D → List Value → Prop
  | nil : ClDs [] []
  | cons {d : D} {u : Value} {ds : List D} {us : List Value} : ClD d u → ClDs ds us → ClDs (d :: ds) (u :: us)
theorem ClDs.ok {E : En} : ∀ {ds : List D} {us : List Value} {vs : List V}, ClDs ds us → DenL E H ds vs → Paired ClsV vs us
  | _, _, _, .nil, h => by simp only [DenL] at h; subst h; exact .nil
  | _, _, _, .cons c k, h => by
    simp only [DenL] at h
    obtain ⟨v, r, rfl, h1, h2⟩ := h
    exact .cons (c.ok h1) (k.ok h2)
/-- isinstance(x, (c1, c2)) -/
theorem xe_isiT {t : Value} {us : List Value} {ds2 : List D} {q : Bool} {tn : Nat} {tp : Pos} (hm : Γ.mg "isinstance" = none) (ha : XE Γ a env d1) (hb : XA Γ es env ds2) (ht : TyD Γ.cl d1 t) (hu : ClDs ds2 us) (hk : PySem.W.kitAny Γ.K t us = some q) (hc : ∀ c ds, d1 = .o c ds → CIs Γ.K (Γ.cl c)) (hl : ds2.length ≤ 100000 := by simp) (hg : Gl' Γ "isinstance" := by rfl)
    (hs : ∀ ev : Env, starEach [a, .Tuple es tn tp] ev = (false, eval a ev) :: starEach [.Tuple es tn tp] ev := by intro _; rfl) (hs2 : ∀ ev : Env, starEach [.Tuple es tn tp] ev = (false, eval (.Tuple es tn tp) ev) :: starEach [] ev := by intro _; rfl) (hpl : ∀ ev : Env, (backTo pos (starEach [.Tuple es tn tp] ev)).any (·.1) = false := by intro _; rfl) : XE Γ (.Call (.Name "isinstance" p) [a, .Tuple es tn tp] [] pos) env (.b q) := xe_of fun r ok =>
  ⟨_, pe_callB (X := Γ.cx r) call_isiT hg hm (by decide +kernel) (pa_cons (X := Γ.cx r) (pe_r ok) (pa_cons (X := Γ.cx r) (pe_tup (pa_r ok)) pa_nil (hs2 _)) (hs _)) (by decide) (by decide) (hs _) (hpl _), fun σ H H0 L P Q at0 qq => ha.rd at0 fun v H1 e1 g1 => hb.rd (at0.grow e1) fun ws H2 e2 g2 => ⟨Evl.sz_of (by rw [g2.len]; exact hl), fun z hz => by
    refine ⟨v, z, ws, t, us, q, rfl, upd_same, hu.ok g2, ?_, hk, qq _ _ ((e1.trans e2).trans (Ex.new hz)) (by simp only [Den])⟩
    exact ht.ok hc (g1.mono (hid_mono (e2.trans (Ex.new hz))))⟩⟩
end
end Q8
/-! Further rules. -/
namespace Q8
open PySem L2 PyProof.Rows
section
variable {Γ : Ga} {r : Rt} {e a b c o : Expr} {es : List Expr} {env env' : List Sl} {d d' d1 d2 d3 : D} {ds : List D} {H H0 H' : Hp} {L P : List (Option Addr)} {σ : L2.St} {pos p apos : Pos} {x f : Str} {i : Nat}
/-! ### + and * by what stands there -/
inductive AddD : D → D → D → Prop
  | i (x y : Int) : AddD (.i x) (.i y) (.i (x + y))
  | s (x y : List Nat) (h : x.length + y.length ≤ 100000) : AddD (.s x) (.s y) (.s (x ++ y))
  | l (x y : List D) (h : x.length + y.length ≤ 100000) : AddD (.l x) (.l y) (.l (x ++ y))
  | t (x y : List D) (h : x.length + y.length ≤ 100000) : AddD (.t x) (.t y) (.t (x ++ y))
theorem xe_plus (ha : XE Γ a env d1) (hb : XE Γ b env d2) (h : AddD d1 d2 d) : XE Γ (.BinOp a .Add b pos) env d := by
  cases h with
  | i x y => exact xe_add ha hb
  | s x y h => exact xe_addS ha hb h
  | l x y h => exact xe_addL ha hb h
  | t x y h => exact xe_addT ha hb h
inductive MulD : D → D → D → Prop
  | i (x y : Int) (h : CMul x y) : MulD (.i x) (.i y) (.i (x * y))
  | s (x : List Nat) (k : Int) (n : Nat) (hk : k = n) (h1 : x.length ≤ 1000) (h2 : n ≤ 1000) : MulD (.s x) (.i k) (.s (List.replicate n x).flatten)
  | l (x : List D) (k : Int) (n : Nat) (hk : k = n) (h1 : x.length * n ≤ 100000) (h2 : n ≤ 100000) : MulD (.l x) (.i k) (.l (List.replicate n x).flatten)
theorem xe_times (ha : XE Γ a env d1) (hb : XE Γ b env d2) (h : MulD d1 d2 d) : XE Γ (.BinOp a .Mult b pos) env d := by
  cases h with
  | i x y h => exact xe_mul ha hb h
  | s x k n hk h1 h2 => subst hk; exact xe_mulS ha hb h1 h2
  | l x k n hk h1 h2 => subst hk; exact xe_mulL ha hb h1 h2
theorem xe_neg {x : Int} (ha : XE Γ a env (.i x)) : XE Γ (.UnaryOp .USub a pos) env (.i (-x)) := xe_of fun r o =>
  ⟨_, pe_un un_neg (pe_r o), fun σ H H0 L P Q at0 q => ha.rd at0 fun v H1 e1 h1 => by
    simp only [Den] at h1
    exact ⟨x, h1, q _ H1 e1 (by simp only [Den])⟩⟩
/-! ### a <= b <= c -/
theorem xe_chain {x y z : Int} (ha : XE Γ a env (.i x)) (hb : XE Γ b env (.i y)) (hc : XE Γ c env (.i z)) (hm : lastMarks [.LtE, .LtE] [b, c] = false := by with_unfolding_all rfl) : XE Γ (.Compare a [.LtE, .LtE] [b, c] pos) env (.b (decide (x ≤ y) && decide (y ≤ z))) := xe_of fun r o =>
  ⟨_, pe_chain op_le op_le (pe_r o) (pe_r o) (pe_r o) hm, fun σ H H0 L P Q at0 q => ha.rd at0 fun v H1 e1 h1 => hb.rd (at0.grow e1) fun u H2 e2 h2 => by
    simp only [Den] at h1 h2
    subst h1 h2
    refine ⟨x, y, rfl, rfl, _, rfl, ?_⟩
    by_cases c1 : x ≤ y
    · rw [if_pos (by simpa using c1)]
      refine hc.rd (at0.grow (e1.trans e2)) fun w H3 e3 h3 => ?_
      simp only [Den] at h3
      subst h3
      exact ⟨y, z, rfl, rfl, q _ H3 ((e1.trans e2).trans e3) (by simp only [Den]; simp [c1])⟩
    · rw [if_neg (by simpa using c1)]
      exact q _ H2 (e1.trans e2) (by simp only [Den]; simp [c1])⟩
theorem xt_chain {x y z : Int} (ha : XE Γ a env (.i x)) (hb : XE Γ b env (.i y)) (hc : XE Γ c env (.i z)) (hm : lastMarks [.LtE, .LtE] [b, c] = false := by with_unfolding_all rfl) : XT Γ (.Compare a [.LtE, .LtE] [b, c] pos) env (decide (x ≤ y) && decide (y ≤ z)) := xt_of fun r o =>
  ⟨_, pt_chain op_le op_le (pe_r o) (pe_r o) (pe_r o) hm, fun σ H H0 L P Q at0 q => ha.rd at0 fun v H1 e1 h1 => hb.rd (at0.grow e1) fun u H2 e2 h2 => by
    simp only [Den] at h1 h2
    subst h1 h2
    refine ⟨x, y, rfl, rfl, _, rfl, ?_⟩
    by_cases c1 : x ≤ y
    · rw [if_pos (by simpa using c1)]
      refine hc.rd (at0.grow (e1.trans e2)) fun w H3 e3 h3 => ?_
      simp only [Den] at h3
      subst h3
      exact ⟨y, z, rfl, rfl, _, rfl, by simpa [c1] using q H3 ((e1.trans e2).trans e3)⟩
    · rw [if_neg (by simpa using c1)]
      exact ⟨_, rfl, by simpa [c1] using q H2 (e1.trans e2)⟩⟩
/-! ### None not in a tuple -/
inductive NoN : D → PyData → Prop
  | s (x : List Nat) (h : ∀ c ∈ x, c < 1114112) : NoN (.s x) (.str ⟨x.toArray⟩)
  | ts (xs : List (List Nat)) (h : ∀ x ∈ xs, ∀ c ∈ x, c < 1114112) : NoN (.t (xs.map .s)) (.tuple (xs.map fun x => .str ⟨x.toArray⟩))
inductive NoNs : List D → List PyData → Prop
  | nil : NoNs [] []
  | cons {d : D} {u : PyData} {ds : List D} {us : List PyData} : NoN d u → NoNs ds us → NoNs (d :: ds) (u :: us)
theorem dp_strs {E : En} : ∀ {xs : List (List Nat)} {vs : List V}, DenL E H (xs.map .s) vs → DpAll E.K H vs (xs.map fun x => .str ⟨x.toArray⟩)
  | [], vs, h => by simp only [List.map_nil, DenL] at h; subst h; exact .nil
  | x :: xs, vs, h => by
    simp only [List.map_cons, DenL] at h
    obtain ⟨v, r, rfl, h1, h2⟩ := h
    simp only [Den] at h1
    subst h1
    exact .cons (.str _) (dp_strs h2)
theorem NoN.dp {E : En} {u : PyData} {v : V} (h : NoN d u) (hd : Den E H d v) : Dp E.K H v u := by
  cases h with
  | s x => simp only [Den] at hd; subst hd; exact .str _
  | ts xs =>
    simp only [Den] at hd
    obtain ⟨p, vs, rfl, h1, h2⟩ := hd
    exact .tup h1 (dp_strs h2)
theorem NoNs.dp {E : En} : ∀ {ds : List D} {us : List PyData} {vs : List V}, NoNs ds us → DenL E H ds vs → DpAll E.K H vs us
  | _, _, _, .nil, h => by simp only [DenL] at h; subst h; exact .nil
  | _, _, _, .cons c k, h => by
    simp only [DenL] at h
    obtain ⟨v, r, rfl, h1, h2⟩ := h
    exact .cons (c.dp h1) (k.dp h2)
def rNotInT (K : PySem.W.Frag) : R2 := fun x y H Q => ∃ ds, x = .non ∧ Dp K H y (.tuple ds) ∧ PyData.canLayAll0 ds = true ∧ Q (.bl (!ds.any fun z => PyData.eqv z .none)) H
theorem op_notInT {X : Cx} (hu : X.A.units + 65 < cLine) : OpR X (compareOp .NotIn) (rNotInT X.K) := by
  intro pins s σ H x y v u Q I rx ry h
  obtain ⟨ds, rfl, hy, hl, q⟩ := h
  cases rx
  cases hy with
  | tup hs ha =>
    cases ry
    obtain ⟨its, rv, pl, hz⟩ := I.tuple hs
    obtain ⟨as, h4⟩ := Dp.readsAll I ds _ its ha rv
    refine SeqAt.notIn_tupleAt (fun u => PyData.eqv (SeqAt.readOf s.heap u) .none) pl (SeqAt.items_eqAt (vs := its.toArray) (by simpa using h4) (Reads.none (h := s.heap)) hl rfl (by have : min (PyData.depthAll ds) PyData.none.depth ≤ PyData.none.depth := Nat.min_le_right _ _; have h2 : PyData.none.depth = 0 := rfl; omega)) ⟨.bl _, H, I, rfl, ?_⟩
    have hmap := SeqAt.readsAll_map ds its as hl h4
    rw [show (its.toArray.any fun u => PyData.eqv (SeqAt.readOf s.heap u) .none) = ds.any fun z => PyData.eqv z .none by rw [← hmap]; simp [List.any_map, Function.comp_def]]
    exact q
theorem nons_lay : ∀ {ds : List D} {us : List PyData}, NoNs ds us → PyData.canLayAll0 us = true ∧ (us.any fun z => PyData.eqv z .none) = false := by
  intro ds us h
  induction h with
  | nil => exact ⟨by simp [PyData.canLayAll0], rfl⟩
  | cons c k ih =>
    have so : ∀ x : List Nat, (∀ c ∈ x, c < 1114112) → PyData.strOk ⟨x.toArray⟩ = true := fun x h => by
      unfold PyData.strOk
      simpa using h
    have hs : ∀ xs : List (List Nat), (∀ x ∈ xs, ∀ c ∈ x, c < 1114112) → PyData.canLayAll0 (xs.map fun x => PyData.str ⟨x.toArray⟩) = true := by
      intro xs hx
      induction xs with
      | nil => simp [PyData.canLayAll0]
      | cons x xs ih => simp [PyData.canLayAll0, PyData.canLay0, ih fun y hy => hx y (List.mem_cons_of_mem _ hy), so x (hx x List.mem_cons_self)]
    cases c with
    | s x h => exact ⟨by simp [PyData.canLayAll0, PyData.canLay0, ih.1, so x h], by simp [PyData.eqv, ih.2]⟩
    | ts xs h => exact ⟨by simp [PyData.canLayAll0, PyData.canLay0, ih.1, hs xs h], by simp [PyData.eqv, ih.2]⟩
theorem xe_noNone {us : List PyData} {j : Nat} {pp : Pos} (hb : XE Γ b env (.t ds)) (h : NoNs ds us) (hm : behindInMarks .NotIn b = false := by rfl) : XE Γ (.Compare (.Constant .none j pp) [.NotIn] [b] pos) env (.b true) := xe_of fun r ok =>
  ⟨_, pe_cmpR (X := Γ.cx r) (op_notInT (Nat.lt_of_le_of_lt (by show r.A.units + 65 ≤ r.A.units + 16 * Γ.k + 200; omega) ok.room.un)) (pe_r ok) (pe_r ok) hm, fun σ H H0 L P Q at0 q => xe_non.rd at0 fun v H1 e1 g1 => hb.rd (at0.grow e1) fun u H2 e2 g2 => by
    simp only [Den] at g1
    subst g1
    have g2' := g2
    simp only [Den] at g2'
    obtain ⟨p, vs, rfl, k1, k2⟩ := g2'
    refine ⟨us, rfl, .tup (ex_t hid_sub k1) (h.dp (k2.mono hid_sub)), (nons_lay h).1, ?_⟩
    rw [(nons_lay h).2]
    exact q _ H2 (e1.trans e2) (by simp only [Den]; rfl)⟩
/-! ### x[::-1] of a text, of a tuple -/
theorem pe_rev {X : Cx} {te : TE} {k : Nat} {p1 p2 p3 : Pos} (he : PE X a te) {R : V → Hp → VK → Prop} (R1 : ∀ (pins : List (Addr × Obj)) (s : Shared) (σ : L2.St) (H : Hp) (x : V) (v vl vu vs : Value) (z : Addr) (Q : VK), L2.Inv X pins σ H s → RelV x v → IsPart vl none → IsPart vu none → IsPart vs (some (-1)) →
      s.heap.get? z = some { cls := .type "slice", data := .fields #[vl, vu, vs] } → R x H Q → ∃ T id, s.TypeIs v T ∧ typeLookup (.type T) "__getitem__" = pure (some (.builtin id)) ∧ wpAny (model X.prog X.w) X.A (getItem v (.ref z)) (EP X pins σ Q) X.xe s) :
    PE X (.Subscript a (.Slice none none (some (.UnaryOp .USub (.Constant (.int 1) k p1) p2)) p3) pos) (fun σ H Q => te σ H fun x H1 => R x H1 Q) := by
  refine ⟨fun pins s σ H Q I h => Subscript_ (thn (he.run pins s σ H _ I h) fun v s1 ⟨x, H1, I1, r1, q1⟩ => ?_)⟩
  have hst : PO X (some (.UnaryOp .USub (.Constant (.int 1) k p1) p2)) (tPart (tUn (rU fun i => .int (-i)) (tC (.int 1)))) := po_some (pe_un un_neg pe_int)
  refine wpAny_Slice (thn (po_none.run pins s1 σ H1 (fun w G => w = none ∧ G = H1) I1 ⟨rfl, rfl⟩) fun vl s2 ⟨l, H2, I2, pl, el, e2⟩ => ?_)
  subst el e2
  refine thn (po_none.run pins s2 σ H2 (fun w G => w = none ∧ G = H2) I2 ⟨rfl, rfl⟩) fun vu s3 ⟨u, H3, I3, pu, eu, e3⟩ => ?_
  subst eu e3
  refine thn (hst.run pins s3 σ H3 (fun w G => w = some (-1) ∧ G = H3) I3 ⟨1, rfl, -1, rfl, rfl, rfl⟩) fun vs s4 ⟨w, H4, I4, ps, eo, e4⟩ => ?_
  subst eo e4
  have I5 : L2.Inv X pins σ H4 { s4 with heap := s4.heap.push { cls := .type "slice", data := .fields #[vl, vu, vs] } } := I4.kept (t' := s4.toks) fun b ob q => Heap.get?_push_of_some _ q
  obtain ⟨T, id, t1, t2, t3⟩ := R1 pins _ σ H4 x v vl vu vs s4.heap.objs.size Q I5 r1 pl pu ps (Heap.get?_push_size _ rfl) q1
  exact tail_any (ops := [v, .ref s4.heap.objs.size]) t1 t2 t3 (by with_unfolding_all rfl)
theorem txt_all {α : Type} (z : Array α) : (List.range z.size).filterMap (z[·]?) = z.toList := by
  have h := pick_run z 0 z.size
  rw [show (List.range z.size).map (0 + ·) = List.range z.size by rw [show ((0 + ·) : Nat → Nat) = id from funext fun k => Nat.zero_add k, List.map_id]] at h
  rw [List.drop_zero, List.take_of_length_le (by rw [Array.length_toList]; exact Nat.le_refl _)] at h
  exact h
theorem rev_txt (z : Array Nat) : ((Builtin.Str.strSliceIndices none none (-1) z.size).filterMap (z[·]?)) = z.toList.reverse := by
  have e : Builtin.Str.strSliceIndices none none (-1) z.size = (List.range z.size).reverse := by
    show sliceRange ((z.size : Int) - 1) (-1) (-1) = _
    rw [PySem.W.krv_sliceRange, PySem.W.krv_range]
  rw [e, List.filterMap_reverse, txt_all]
theorem xe_revS {l : List Nat} {k : Nat} {p1 p2 p3 : Pos} (ha : XE Γ a env (.s l)) (hl : l.length ≤ 100000) : XE Γ (.Subscript a (.Slice none none (some (.UnaryOp .USub (.Constant (.int 1) k p1) p2)) p3) pos) env (.s l.reverse) := xe_of fun r ok =>
  ⟨_, pe_rev (X := Γ.cx r) (pe_r ok) (R := fun x H Q => ∃ z : Str, x = .str z ∧ z.length ≤ sizeLine ∧ Q (.str ⟨z.cps.toList.reverse.toArray⟩) H) (fun pins s σ H x v vl vu vs z Q I rx pl pu ps hz ⟨y, ey, hy, q⟩ => by
    subst ey
    obtain ⟨t, rfl⟩ := rx
    obtain ⟨l, rfl, el⟩ := IsPart.raw pl
    obtain ⟨u, rfl, eu⟩ := IsPart.raw pu
    obtain ⟨st, rfl, es⟩ := IsPart.raw ps
    refine ⟨"str", _, typeIs_str _ _ _, PySem.F.slot_str_getitem.lookup, ?_⟩
    refine wpAny_getItem_str_slice (l := l) (u := u) (st := st) ⟨_, hz, rfl, rfl⟩ (by rw [es]; rfl) ?_
    have hp : (slicePicked y l u st).filterMap (y.cps[·]?) = y.cps.toList.reverse := by
      unfold slicePicked
      rw [el, eu, es]
      exact rev_txt y.cps
    unfold sliceMade
    rw [if_neg (by rw [es]; simp), hp]
    refine ⟨?_, .str _, H, I.tok _, ⟨_, rfl⟩, q⟩
    show y.cps.toList.reverse.toArray.size ≤ sizeLine
    have : y.length = y.cps.size := rfl
    rw [this] at hy
    simpa using hy), fun σ H H0 L P Q at0 q => ha.rd at0 fun v H1 e1 h1 => by
    simp only [Den] at h1
    subst h1
    exact ⟨_, rfl, sz (by rw [str_len]; exact hl), q _ H1 e1 (by simp only [Den])⟩⟩
theorem applied_rev {prog : Program} {w : World} {A : Around} {E : Value → Shared → Prop} {s : Shared} {z : Addr} {n : Nat} {vl vu vs : Value} {Q : Int × Int × Nat → Shared → Prop} (hz : s.heap.get? z = some { cls := .type "slice", data := .fields #[vl, vu, vs] }) (pl : IsPart vl none) (pu : IsPart vu none) (ps : IsPart vs (some (-1)))
    (h : Q ((n : Int) - 1, -1, n) s) : wpAny (model prog w) A (Builtin.Slice.sliceApplied (.ref z) (pure (n : Int))) Q E s := by
  unfold Builtin.Slice.sliceApplied Builtin.Slice.sliceFields
  refine wpAny_bind (wpAny_bind (wpAny_field hz rfl (x := vl) rfl (wpAny_bind (wpAny_field hz rfl (x := vu) rfl (wpAny_bind (wpAny_field hz rfl (x := vs) rfl (wpAny_pure ?_)))))))
  refine wpAny_bind (HT.slicePart_ ps ?_)
  show wpAny _ _ (if ((-1 : Int) == 0) = true then _ else _) _ _ s
  rw [if_neg (by decide)]
  refine wpAny_bind (HT.slicePart_ pl (wpAny_bind (HT.slicePart_ pu (wpAny_bind (wpAny_pure ?_)))))
  have e : Builtin.Slice.slicePlaces ((n : Int) - 1) (-1) (-1) = n := by
    unfold Builtin.Slice.slicePlaces
    rw [if_neg (by decide)]
    by_cases c : (n : Int) - 1 > -1
    · rw [if_pos c, show (- -1 : Int) = 1 by decide, Int.ediv_one]
      omega
    · rw [if_neg c]
      omega
  show wpAny _ _ (pure (((n : Int) - 1), (-1 : Int), Builtin.Slice.slicePlaces ((n : Int) - 1) (-1) (-1))) _ _ s
  rw [e]
  exact wpAny_pure h
theorem pick_rev (xs : Array Value) : ((List.range xs.size).filterMap fun (m : Nat) => xs[(((xs.size : Int) - 1) + (m : Int) * (-1)).toNat]?).toArray = xs.toList.reverse.toArray := by
  congr 1
  rw [← txt_all xs, ← List.filterMap_reverse, ← PySem.W.krv_range, List.filterMap_map]
  apply List.ext_getElem?
  intro i
  congr 1
  have key : ∀ l : List Nat, (∀ m ∈ l, m < xs.size) → l.filterMap (fun (m : Nat) => xs[(((xs.size : Int) - 1) + (m : Int) * (-1)).toNat]?) = l.filterMap ((xs[·]?) ∘ fun k => xs.size - 1 - k) := by
    intro l hl
    induction l with
    | nil => rfl
    | cons m l ih =>
      have hm := hl m List.mem_cons_self
      have e : (((xs.size : Int) - 1) + (m : Int) * (-1)).toNat = xs.size - 1 - m := by omega
      rw [List.filterMap_cons, List.filterMap_cons, ih fun k hk => hl k (List.mem_cons_of_mem _ hk), e]
      rfl
  exact key _ fun m hm => List.mem_range.mp hm
theorem getItem_tup_rev {prog : Program} {w : World} {A : Around} {E : Value → Shared → Prop} {s : Shared} {t z : Addr} {its : Array Value} {vl vu vs : Value} {Q : Value → Shared → Prop} (ht : IsTup s.heap t its) (hz : s.heap.get? z = some { cls := .type "slice", data := .fields #[vl, vu, vs] }) (pl : IsPart vl none) (pu : IsPart vu none) (ps : IsPart vs (some (-1)))
    (hs : its.size ≤ sizeLine) (h : Q (.ref s.heap.objs.size) { s with heap := s.heap.push { cls := .type "tuple", data := .seq its.toList.reverse.toArray } }) : wpAny (model prog w) A (getItem (.ref t) (.ref z)) Q E s := by
  have hso : sizeOk (.seq its.toList.reverse.toArray) := by
    show its.toList.reverse.toArray.size ≤ sizeLine
    simpa using hs
  unfold getItem
  try with_reducible refine wpAny_holding ?_
  first | refine wpAny_bind (wpAny_pure ?_) | skip
  have tt := ht.typeIs
  refine wpAny_bind (wpAny_sequenceKey tt (by decide) ?_)
  have sg := PyProof.Rows.slot_tuple_getitem
  refine wpAny_bind (wpAny_callSpecial?_slot (name := Str.ofString "__getitem__") tt sg (wpAny_call_entry sg tt entry_tuple_getitem ?_ (args_tuple_getitem _ _)))
  show wpAny _ _ (Builtin.Tuple.tupleItemsOf (.ref t) >>= _) _ _ s
  refine wpAny_bind (tupleItemsOf_ ht ?_)
  have tz : s.TypeIs (.ref z) "slice" := ⟨_, hz, rfl⟩
  refine wpAny_bind (wpAny_typeOf tz ?_)
  rw [if_pos (by decide)]
  refine wpAny_bind (applied_rev hz pl pu ps ?_)
  have hno : ¬ (((((its.size : Int) - 1) == 0 && (-1 : Int) == 1) && its.size == its.size) = true) := by simp
  show wpAny _ _ (if ((((its.size : Int) - 1) == 0 && (-1 : Int) == 1) && its.size == its.size) = true then _ else _) _ _ s
  rw [if_neg hno, pick_rev]
  first
    | exact wpAny_bind (m := Builtin.Tuple.tupleExact _) (wpAny_newObj_type (wpAny_pure ⟨_, rfl, wpAny_pure h⟩) hso)
    | exact wpAny_bind (m := Builtin.Tuple.tupleExact _) (wpAny_newObj_type (wpAny_bind (wpAny_pure (wpAny_pure ⟨_, rfl, wpAny_pure h⟩))) hso)
    | exact wpAny_bind (wpAny_bind (m := Builtin.Tuple.tupleExact _) (wpAny_newObj_type (wpAny_pure (wpAny_pure ⟨_, rfl, wpAny_pure h⟩)) hso))
    | exact wpAny_bind (wpAny_bind (m := Builtin.Tuple.tupleExact _) (wpAny_newObj_type (wpAny_pure ⟨_, rfl, wpAny_pure h⟩) hso))
theorem xe_revT {k : Nat} {p1 p2 p3 : Pos} (ha : XE Γ a env (.t ds)) : XE Γ (.Subscript a (.Slice none none (some (.UnaryOp .USub (.Constant (.int 1) k p1) p2)) p3) pos) env (.t ds.reverse) := xe_of fun r ok =>
  ⟨_, pe_rev (X := Γ.cx r) (pe_r ok) (R := fun x H Q => ∃ q xs, x = .ref q ∧ SqT Γ.K H q xs ∧ ∀ z, H z = none → Q (.ref z) (upd H z (.tup xs.reverse))) (fun pins s σ H x v vl vu vs z Q I rx pl pu ps hz ⟨q, xs, ex, hq, qq⟩ => by
    subst ex
    cases rx
    obtain ⟨its, rv, ht, hs⟩ := I.tuple hq
    have hlen := rv.length
    refine ⟨"tuple", _, ht.typeIs, PyProof.Rows.slot_tuple_getitem.lookup, getItem_tup_rev ht hz pl pu ps (by rw [List.size_toArray]; omega) ?_⟩
    refine ⟨.ref _, _, I.laid (t' := s.toks) (o := .tup xs.reverse) (fun b ob q => Heap.get?_push_of_some _ q) (Nat.le_refl _) ?_, rfl, qq _ (I.hok.fresh (Nat.le_refl _))⟩
    exact ⟨by rw [List.length_reverse]; exact hs, _, rv.reverse, IsTup.new _ _⟩), fun σ H H0 L P Q at0 q => ha.rd at0 fun v H1 e1 h1 => by
    simp only [Den] at h1
    obtain ⟨p, vs, rfl, g1, g2⟩ := h1
    exact ⟨p, vs, rfl, ex_t hid_sub g1, fun z hz => q _ _ (e1.trans (Ex.new hz)) (den_tup hz (at0.grow e1).tr g2.rev)⟩⟩
end
end Q8
/-! Further rules: str.index, str(int), sets, dicts, while, unpacking, keywords, deep ==. -/
namespace Q8
open PySem L2 PyProof.Rows
section
variable {Γ : Ga} {r : Rt} {e a b c o : Expr} {es : List Expr} {env env' : List Sl} {d d' d1 d2 d3 : D} {ds : List D} {H H0 H' : Hp} {L P : List (Option Addr)} {σ : L2.St} {pos p apos : Pos} {x f : Str} {i : Nat}
/-! ### s.index(sign), str(int) -/
theorem index_sign {y : List Nat} {c : Nat} (h : c ∈ y) : Txt.index0 ⟨y.toArray⟩ ⟨[c].toArray⟩ = some (y.idxOf c) := by
  have key : ∀ i, PySem.StrLaws.At (⟨y.toArray⟩ : Str) ⟨#[c]⟩ (⟨y.toArray⟩ : Str).length i ↔ y[i]? = some c := fun i => by
    have := PySem.StrLaws.subAt_one (⟨y.toArray⟩ : Str) c i
    simpa [PySem.StrLaws.At] using this
  unfold Txt.index0
  rcases PySem.StrLaws.occ_head (⟨y.toArray⟩ : Str) ⟨#[c]⟩ 1 (Nat.le_refl _) with ⟨_, h2⟩ | ⟨k, rest, h1, h2, h3⟩
  · exact absurd ((key (y.idxOf c)).mpr (by rw [List.getElem?_eq_getElem (List.idxOf_lt_length_of_mem h)]; simp)) (h2 _)
  · show (Builtin.Str.occurrences (⟨y.toArray⟩ : Str) ⟨#[c]⟩ 0 _ 1).head? = _
    rw [h1]
    have e1 := (key k).mp h2
    have hk : k < y.length := (List.getElem?_eq_some_iff.mp e1).1
    have e2 : y.idxOf c = k := by
      have hle : ¬ y.idxOf c < k := fun z => h3 _ z ((key _).mpr (by rw [List.getElem?_eq_getElem (List.idxOf_lt_length_of_mem h)]; simp))
      rcases Nat.lt_or_ge k (y.idxOf c) with z | z
      · have hne := List.not_of_lt_findIdx (p := (· == c)) (xs := y) (by unfold List.idxOf at z; exact z)
        have e3 : y[k] = c := by rw [List.getElem?_eq_getElem hk] at e1; exact Option.some.inj e1
        simp [e3] at hne
      · omega
    rw [e2]
    rfl
theorem noTakes {X : Cx} : Takes X (fun _ _ _ _ => False) := by
  rintro u s' ⟨a, B, sI, pins, σ, H, cls, d, e, I, nb, up, sky, na, os, ag, w⟩
  exact w.elim
theorem xe_index {y : List Nat} {c : Nat} (ho : XE Γ o env (.s y)) (he : XE Γ e env (.s [c])) (hc : c ∈ y) (hbase : ∀ ev : Env, attributeBase o "index" ev (eval o ev) = eval o ev := by intro _; rfl) (hs1 : ∀ ev : Env, starEach [e] ev = (false, eval e ev) :: starEach [] ev := by intro _; rfl)
    (hfew : ∀ ev : Env, ((backTo p (starEach [e] ev)).all (fun x => !x.1) && (backToKw p (keywordEach [] ev)).all (fun x => x.1.isSome)
      && decide (([e]).length + ([] : List Keyword).length + (if ([] : List Keyword).isEmpty then 0 else 1) < 30)) = true := by intro _; rfl)
    (hline : (apos.endLine == p.line) = true := by rfl) (hpl : ∀ ev : Env, (backTo p (starEach [] ev)).any (·.1) = false := by intro _; rfl) : XE Γ (.Call (.Attribute o "index" apos) [e] [] p) env (.i (y.idxOf c)) := xe_of fun r ok =>
  ⟨_, pe_bmS (X := Γ.cx r) PySem.F.plainAttrs_str PySem.F.slot_str_index PySem.F.type_str_index (mt_indexX (W := fun _ _ _ _ => False) rfl (noTakes)) (pe_r ok) (pa_r ok) (hbase _) (hfew _) hline (hs1 _) (hpl _), fun σ H H0 L P Q at0 q => ho.rd at0 fun v H1 e1 h1 => by
    simp only [Den] at h1
    subst h1
    refine ⟨rfl, (xa_cons he xa_nil hs1).rd (at0.grow e1) fun us H2 e2 h2 => ?_⟩
    simp only [DenL, Den] at h2
    obtain ⟨v, r', rfl, rfl, rfl⟩ := h2
    refine ⟨_, _, rfl, rfl, fun k hk => ?_, fun hk => ?_⟩
    · rw [index_sign hc] at hk
      cases hk
      exact q _ H2 (e1.trans e2) (by simp only [Den])
    · rw [index_sign hc] at hk
      cases hk⟩
def natTxt (n : Nat) : List Nat := (toString (n : Int) : String).toList.map Char.toNat
theorem xe_strI {n : Nat} {l : List Nat} (hm : Γ.mg "str" = none) (ha : XE Γ a env (.i n)) (hn : n < 1000) (hx : (toString (n : Int) : Str) = ⟨l.toArray⟩) (hg : Gl' Γ "str" := by rfl) (hs : ∀ ev : Env, starEach [a] ev = (false, eval a ev) :: starEach [] ev := by intro _; rfl) : XE Γ (.Call (.Name "str" p) [a] [] pos) env (.s l) :=
  xe_callTy (fun r _ => call_str_int) hm (xa_cons ha xa_nil hs) (fun P H vs Q h1 _ q => by
    simp only [DenL, Den] at h1
    obtain ⟨v, r, rfl, rfl, rfl⟩ := h1
    refine ⟨n, rfl, ?_, q _ H (Ex.refl H) (by simp only [Den]; rw [hx])⟩
    have : (n : Int).natAbs = n := by omega
    rw [this]
    refine Nat.lt_of_le_of_lt (Nat.log2_le_self n) (by omega)) hg (by decide +kernel) (by decide) (by decide) hs
/-! ### tuple(sorted(set(ints))) -/
theorem call_setT {X : Cx} (hc : X.calm = true) : CallR X (.type "set") (fun xs H Q => ∃ (q : Addr) (ns : List Int), xs = [.ref q] ∧ SqT X.K H q (ns.map V.int) ∧ ns.length < 60 ∧ ∀ z n, H z = none → n ≤ ns.length → Q (.ref z) (upd H z (SetO X.w z (fun j => decide (j ∈ ns)) n))) := by
  intro pins s σ H xs us Q I r h
  obtain ⟨q, ns, rfl, hq, hl, qq⟩ := h
  obtain ⟨u, rfl, rx⟩ := vals1 r
  obtain rfl : u = Value.ref q := rx
  obtain ⟨its, rv, ht, hz⟩ := I.tuple hq
  have hi : IntsAre its.toArray.toList ns := intsAre_of rv
  refine call_set_tupI ns (I.ok.hd hc) ht hi (by show ns.length + 1 < 4096; omega) fun h' tk c R hcl k => ?_
  have hn : H s.heap.objs.size = none := I.hok.fresh (Nat.le_refl _)
  have J := I.laid (a := s.heap.objs.size) (o := SetO X.w s.heap.objs.size (fun j => decide (j ∈ ns)) c) (h' := h') (t' := tk) k (Nat.le_refl _) (setO_new R)
  exact ⟨.ref _, _, J, rfl, qq _ c hn hcl⟩
theorem sorted_uniq : ∀ {xs ys : List Int}, xs.Pairwise (· < ·) → ys.Pairwise (· < ·) → (∀ k, k ∈ xs ↔ k ∈ ys) → xs = ys
  | [], [], _, _, _ => rfl
  | [], y :: ys, _, _, h => absurd ((h y).mpr List.mem_cons_self) (by simp)
  | x :: xs, [], _, _, h => absurd ((h x).mp List.mem_cons_self) (by simp)
  | x :: xs, y :: ys, h1, h2, h => by
    obtain ⟨a1, a2⟩ := List.pairwise_cons.mp h1
    obtain ⟨b1, b2⟩ := List.pairwise_cons.mp h2
    have e : x = y := by
      rcases List.mem_cons.mp ((h x).mp List.mem_cons_self) with z | z
      · exact z
      · rcases List.mem_cons.mp ((h y).mpr List.mem_cons_self) with w | w
        · exact w.symm
        · have := b1 x z; have := a1 y w; omega
    subst e
    congr 1
    refine sorted_uniq a2 b2 fun k => ⟨fun z => ?_, fun z => ?_⟩
    · rcases List.mem_cons.mp ((h k).mp (List.mem_cons_of_mem _ z)) with w | w
      · subst w; have := a1 k z; omega
      · exact w
    · rcases List.mem_cons.mp ((h k).mpr (List.mem_cons_of_mem _ z)) with w | w
      · subst w; have := b1 k z; omega
      · exact w
theorem xe_sortedSet {ns : List Int} {q1 q2 s1 s2 : Pos} (hm1 : Γ.mg "sorted" = none) (hm2 : Γ.mg "set" = none) (ha : XE Γ a env (.t (ns.map .i))) (hl : ns.length < 60) (hp : ns.Pairwise (· < ·)) (hg1 : Gl' Γ "sorted" := by rfl) (hg2 : Gl' Γ "set" := by rfl)
    (hs : ∀ ev : Env, starEach [a] ev = (false, eval a ev) :: starEach [] ev := by intro _; rfl) (hs2 : ∀ ev : Env, starEach [.Call (.Name "set" q2) [a] [] s2] ev = (false, eval (.Call (.Name "set" q2) [a] [] s2) ev) :: starEach [] ev := by intro _; rfl) :
    XE Γ (.Call (.Name "sorted" q1) [.Call (.Name "set" q2) [a] [] s2] [] s1) env (.l (ns.map .i)) := xe_of fun r ok =>
  ⟨_, pe_callB (X := Γ.cx r) (cr_sortedSet rfl) hg1 hm1 (by decide +kernel) (pa_cons (X := Γ.cx r) (pe_callTy (X := Γ.cx r) (call_setT rfl) hg2 hm2 (by decide +kernel) (pa_cons (X := Γ.cx r) (pe_r ok) pa_nil (hs _)) (by decide) (by decide) (hs _) rfl) pa_nil (hs2 _)) (by decide) (by decide) (hs2 _) rfl, fun σ H H0 L P Q at0 q => ha.rd at0 fun v H1 e1 h1 => by
    simp only [Den] at h1
    obtain ⟨p, vs, rfl, g1, g2⟩ := h1
    rw [denL_i] at g2
    subst g2
    refine ⟨p, ns, rfl, ex_t hid_sub g1, hl, fun z n hz hn => ?_⟩
    refine ⟨z, _, n, rfl, upd_same, by omega, fun ms w m1 m2 m3 hw => ?_⟩
    have e : ms = ns := sorted_uniq m1 hp fun k => by rw [m2 k]; simp
    subst e
    have e2 := Ex.new (o := SetO Γ.w z (fun j => decide (j ∈ ms)) n) hz
    refine q _ _ ((e1.trans e2).trans (Ex.new hw)) ?_
    refine den_lst hw ((at0.grow e1).grow e2).tr ?_
    exact denL_i.mpr rfl⟩
/-! ### {k: v} -/
theorem xn_disp {y : List Nat} {v : Expr} (hk : XE Γ b env (.s y)) (hv : XE Γ v env d) (hf : flatD d = true) : XN Γ (.Dict [some b] [v] pos) env (.ok [(y, d)]) := xn_of fun r ok =>
  ⟨_, pe_disp (X := Γ.cx r) (pps_cons (pe_r ok) (pe_r ok) pps_nil) rfl rfl (by simp) (by simp), fun σ H H0 L P Q at0 q => fun p hp => by
    have e0 := Ex.new (o := .dK []) hp
    refine hk.rd (at0.grow e0) fun u H1 e1 h1 => hv.rd (at0.grow (e0.trans e1)) fun w H2 e2 h2 => ?_
    simp only [Den] at h1
    subst h1
    refine ⟨e2 _ _ (e1 _ _ upd_same), [(Sum.inr ⟨y.toArray⟩, w)], rfl, by simp, q p _ hp ?_ ⟨_, upd_same, ?_⟩⟩
    · exact Evl.Ex.mut (e0.trans (e1.trans e2)) hp
    · show DenK _ _ _ [(Sum.inr ⟨y.toArray⟩, w)]
      simp only [DenK]
      exact ⟨w, [], rfl, flat_den hf h2, rfl⟩⟩
/-! ### while -/
inductive Wh (Γ : Ga) (c : Expr) (body : List Stmt) : List Sl → Out → Prop
  | stop {env : List Sl} : XT Γ c env false → Wh Γ c body env (.nx env)
  | turn {env e2 e3 : List Sl} {out : Out} : XT Γ c env true → XSs Γ body env (.nx e2) → Wk e2 e3 → Wh Γ c body e3 out → Wh Γ c body env out
inductive WhN (Γ : Ga) (c : Expr) (body : List Stmt) : Nat → List Sl → Out → Prop
  | stop {n : Nat} {env : List Sl} : XT Γ c env false → WhN Γ c body n env (.nx env)
  | turn {n : Nat} {env e2 e3 : List Sl} {out : Out} : XT Γ c env true → XSs Γ body env (.nx e2) → Wk e2 e3 → WhN Γ c body n e3 out → WhN Γ c body (n + 1) env out
theorem Wh.count {body : List Stmt} {out : Out} (h : Wh Γ c body env out) : ∃ n, WhN Γ c body n env out := by
  induction h with
  | stop h => exact ⟨0, .stop h⟩
  | turn h1 h2 h3 _ ih => obtain ⟨n, ih⟩ := ih; exact ⟨n + 1, .turn h1 h2 h3 ih⟩
theorem xs_while {body : List Stmt} {out : Out} (h : Wh Γ c body env out) : XS Γ (.While c body [] pos) env out := xs_of fun r ok =>
  ⟨_, ps_while (X := Γ.cx r) PassesOwn.never (pt_r ok) (pss_r ok), fun σ H H0 L P Dn at0 q => by
    obtain ⟨n, h⟩ := h.count
    refine ⟨fun m σ H => ∃ P env, At Γ.en L H0 P env σ H ∧ WhN Γ c body m env out, ⟨n, P, env, at0, h⟩, ?_⟩
    rintro m σ H ⟨P, env, at1, h⟩
    cases h with
    | stop ht =>
      refine ht.rd at1 fun H1 e1 => ?_
      rw [if_neg (by simp)]
      exact q _ _ _ (at1.grow e1)
    | turn ht hb hw hl =>
      rename_i m e2 e3
      refine ht.rd at1 fun H1 e1 => ?_
      rw [if_pos rfl]
      refine ⟨fun σ' H' => ∃ m', m' < m + 1 ∧ ∃ P env, At Γ.en L H0 P env σ' H' ∧ WhN Γ c body m' env out, fun σ' H' z => z, ?_⟩
      refine ⟨_, _, _, _, _, hb, at1.grow e1, fun P2 σ2 H2 at2 => ?_⟩
      obtain ⟨P3, at3⟩ := At.weak hw at2
      exact ⟨m, Nat.lt_succ_self _, P3, _, at3, hl⟩⟩
/-! ### a, b, .. = a tuple -/
inductive Nms (Γ : Ga) : List Expr → List Nat → Prop
  | nil : Nms Γ [] []
  | cons {i : Nat} {x : Str} {pos : Pos} {es : List Expr} {is : List Nat} (p : Put Γ i x) (t : Nms Γ es is) : Nms Γ (.Name x pos :: es) (i :: is)
def setAll : List Sl → List Nat → List D → List Sl
  | env, i :: is, d :: ds => setAll (env.set i (.v d)) is ds
  | env, _, _ => env
def gNames : List Nat → TGs
  | [] => gNil
  | i :: is => gCons (gName i) (gNames is)
theorem pgs_names (ok : r.Ok Γ) : ∀ {es : List Expr} {is : List Nat}, Nms Γ es is → PGs (Γ.cx r) es (gNames is)
  | _, _, .nil => pgs_nil
  | _, _, .cons p t => pgs_cons (pg_name (X := Γ.cx r) p.nd p.ix p.lc (p.fn ok)) (pgs_names ok t)
theorem gNames_rd {Q : L2.St → Hp → Prop} : ∀ {is : List Nat} {ds : List D} {vs : List V} {env : List Sl} {P : List (Option Addr)} {σ : L2.St}, ds.length = is.length → At Γ.en L H0 P env σ H → DenL Γ.en (hid P H) ds vs → (∀ P' σ', At Γ.en L H0 P' (setAll env is ds) σ' H → Q σ' H) → gNames is vs σ H Q
  | [], [], vs, env, P, σ, _, at0, h, q => by
    simp only [DenL] at h
    subst h
    exact ⟨rfl, q P σ at0⟩
  | i :: is, d :: ds, vs, env, P, σ, hl, at0, h, q => by
    simp only [DenL] at h
    obtain ⟨v, r, rfl, h1, h2⟩ := h
    refine ⟨v, r, rfl, ?_⟩
    exact gNames_rd (by simpa using hl) (at0.setv h1) (h2.mono setP_less) q
theorem xs_unpack {is : List Nat} {tpos : Pos} {k : Nat} (h : XE Γ e env (.t ds)) (n : Nms Γ es is) (hl : ds.length = is.length) (hn : ∀ ev : Env, (assignEach es ev).length = is.length := by intro _; rfl) (hst : ∀ ev : Env, (assignEach es ev).findIdx? (·.1) = none := by intro _; rfl)
    (hs : ∀ ev : Env, swapsWithSole [.Tuple es k tpos] e pos.line { ev with scope := Γ.sc } = pure false := by intro _; rfl) (hw : ∀ ev : Env, swappedStores [.Tuple es k tpos] e { ev with scope := Γ.sc } = pure none := by intro _; rfl) : XS Γ (.Assign [.Tuple es k tpos] e pos) env (.nx (setAll env is ds)) := xs_of fun r ok =>
  ⟨_, ps_asg (X := Γ.cx r) (pe_r ok) (pg_tup rfl (pgs_names ok n) (hn _) (hst _)) (hs r.env) (hw r.env), fun σ H H0 L P Dn at0 q => h.rd at0 fun v H1 e1 h1 => by
    simp only [Den] at h1
    obtain ⟨p, vs, rfl, g1, g2⟩ := h1
    exact ⟨p, vs, rfl, ex_t hid_sub g1, by rw [g2.len, hl], gNames_rd hl (at0.grow e1) g2 fun P' σ' a' => q P' σ' H1 a'⟩⟩
end
end Q8
/-! A dict walked by a comprehension; calls by keywords; deep ==. -/
namespace Q8
open PySem L2 PyProof.Rows
/-- dicts may be locked -/
def Lk (H H' : Hp) : Prop := ∀ a o, H a = some o → H' a = some o ∨ ((∃ ws, o = .dK ws) ∧ ∃ ob, H' a = some (.frz ob o))
section
variable {E : En} {H H' : Hp}
theorem Lk.sql {K : PySem.W.Frag} {a : Addr} {xs : List V} (e : Lk H H') (h : SqL K H a xs) : SqL K H' a xs := by
  rcases h with (h | ⟨ob, h⟩) | h
  · rcases e _ _ h with z | ⟨⟨ws, z⟩, _⟩
    · exact .inl (.inl z)
    · cases z
  · rcases e _ _ h with z | ⟨⟨ws, z⟩, _⟩
    · exact .inl (.inr ⟨ob, z⟩)
    · cases z
  · exact .inr h
theorem Lk.sqt {K : PySem.W.Frag} {a : Addr} {xs : List V} (e : Lk H H') (h : SqT K H a xs) : SqT K H' a xs := by
  rcases h with (h | ⟨ob, h⟩) | h
  · rcases e _ _ h with z | ⟨⟨ws, z⟩, _⟩
    · exact .inl (.inl z)
    · cases z
  · rcases e _ _ h with z | ⟨⟨ws, z⟩, _⟩
    · exact .inl (.inr ⟨ob, z⟩)
    · cases z
  · exact .inr h
theorem Lk.lst {a : Addr} {vs : List V} (e : Lk H H') (h : H a = some (.lst vs)) : H' a = some (.lst vs) := by
  rcases e _ _ h with z | ⟨⟨ws, z⟩, _⟩
  · exact z
  · cases z
theorem Lk.ins {a C dx : Addr} {fs : List (Str × V)} (e : Lk H H') (h : H a = some (.ins C dx fs)) : H' a = some (.ins C dx fs) := by
  rcases e _ _ h with z | ⟨⟨ws, z⟩, _⟩
  · exact z
  · cases z
theorem Lk.dk {a : Addr} {ws : List (Key × V)} (e : Lk H H') (h : Rd H a (.dK ws)) : Rd H' a (.dK ws) := by
  rcases h with h | ⟨ob, h⟩
  · rcases e _ _ h with z | ⟨_, ob, z⟩
    · exact .inl z
    · exact .inr ⟨ob, z⟩
  · rcases e _ _ h with z | ⟨⟨ws, z⟩, _⟩
    · exact .inr ⟨ob, z⟩
    · cases z
mutual
theorem Den.lock (e : Lk H H') : ∀ (d : D) (v : V), Den E H d v → Den E H' d v
  | .n, v, h => by simp only [Den] at h ⊢; exact h
  | .b x, v, h => by simp only [Den] at h ⊢; exact h
  | .i x, v, h => by simp only [Den] at h ⊢; exact h
  | .s x, v, h => by simp only [Den] at h ⊢; exact h
  | .y x, v, h => by simp only [Den] at h ⊢; exact h
  | .r x, v, h => by simp only [Den] at h ⊢; exact h
  | .q ds, v, h => by
    simp only [Den] at h ⊢
    obtain ⟨p, h1, h2⟩ := h
    exact ⟨p, h1, e.sql h2⟩
  | .l ds, v, h => by
    simp only [Den] at h ⊢
    obtain ⟨p, vs, h1, h2, h3⟩ := h
    exact ⟨p, vs, h1, e.lst h2, DenL.lock e ds vs h3⟩
  | .t ds, v, h => by
    simp only [Den] at h ⊢
    obtain ⟨p, vs, h1, h2, h3⟩ := h
    exact ⟨p, vs, h1, e.sqt h2, DenL.lock e ds vs h3⟩
  | .k kvs, v, h => by
    simp only [Den] at h ⊢
    obtain ⟨p, vs, h1, h2, h3⟩ := h
    exact ⟨p, vs, h1, e.dk h2, DenK.lock e kvs vs h3⟩
  | .o c ds, v, h => by
    simp only [Den] at h ⊢
    obtain ⟨p, dx, vs, h1, h2, h3, h4⟩ := h
    exact ⟨p, dx, vs, h1, e.ins h2, h3, DenL.lock e ds vs h4⟩
theorem DenL.lock (e : Lk H H') : ∀ (ds : List D) (vs : List V), DenL E H ds vs → DenL E H' ds vs
  | [], vs, h => by simp only [DenL] at h ⊢; exact h
  | d :: ds, vs, h => by
    simp only [DenL] at h ⊢
    obtain ⟨v, r, h1, h2, h3⟩ := h
    exact ⟨v, r, h1, Den.lock e d v h2, DenL.lock e ds r h3⟩
theorem DenK.lock (e : Lk H H') : ∀ (ds : List (List Nat × D)) (vs : List (Key × V)), DenK E H ds vs → DenK E H' ds vs
  | [], vs, h => by simp only [DenK] at h ⊢; exact h
  | (x, d) :: ds, vs, h => by
    simp only [DenK] at h ⊢
    obtain ⟨v, r, h1, h2, h3⟩ := h
    exact ⟨v, r, h1, Den.lock e d v h2, DenK.lock e ds r h3⟩
end
theorem Lk.hid {P : List (Option Addr)} (e : Lk H H') : Lk (hid P H) (hid P H') := fun a o h => by
  obtain ⟨h1, h2⟩ := hid_some.mp h
  rcases e a o h2 with z | ⟨z, ob, z2⟩
  · exact .inl (hid_some.mpr ⟨h1, z⟩)
  · exact .inr ⟨z, ob, hid_some.mpr ⟨h1, z2⟩⟩
end
section
variable {Γ : Ga} {r : Rt} {e a b c o tg : Expr} {es : List Expr} {env env' : List Sl} {d d' d1 d2 d3 : D} {ds : List D} {H H0 H' : Hp} {L P : List (Option Addr)} {σ : L2.St} {pos p apos : Pos} {x f : Str} {i : Nat} {put : List Sl → D → List Sl → Prop} {ix : List Nat}
theorem At.lock (a : At Γ.en L H0 P env σ H) (e : Lk H H') (hp : ∀ p, some p ∈ P → H' p = H p) : At Γ.en L (vis L P H') P env σ H' := by
  refine ⟨Ex.refl _, a.ls, a.lp, a.xt, a.nd, fun p h => let ⟨o, h'⟩ := a.tr p h; ⟨o, by rw [hp p h]; exact h'⟩, fun i s hs => ?_⟩
  have h := a.sl i s hs
  have me : ∀ p, P[i]? = some (some p) → some p ∈ P := fun p h => List.mem_of_getElem? h
  cases s with
  | no => exact h
  | v d => obtain ⟨x, h1, h2, h3⟩ := h; exact ⟨x, h1, Den.lock e.hid _ _ h2, h3⟩
  | ol ds => obtain ⟨p, vs, h1, h2, h3, h4⟩ := h; exact ⟨p, vs, h1, h2, by rw [hp p (me p h2)]; exact h3, DenL.lock e.hid _ _ h4⟩
  | ok ds => obtain ⟨p, vs, h1, h2, h3, h4⟩ := h; exact ⟨p, vs, h1, h2, by rw [hp p (me p h2)]; exact h3, DenK.lock e.hid _ _ h4⟩
  | oi p dx c ds => obtain ⟨vs, h1, h2, h3, h5, h4⟩ := h; exact ⟨vs, h1, h2, by rw [hp p (me p h2)]; exact h3, h5, DenL.lock e.hid _ _ h4⟩
theorem keys_walk {Hb : Hp} {dp : Addr} {ob : Obj} {kvs : List (List Nat × D)} {ws : List (Key × V)} (h : Hb dp = some (.frz ob (.dK ws))) (hk : ∀ {E' : En}, DenK E' Hb kvs ws → True) (hd : DenK Γ.en Hb kvs ws) : WalkD Γ.en Hb (Itk dp ob ws) (kvs.map fun kv => .s kv.1) := by
  unfold WalkD
  rw [List.length_map, ← denK_len hd]
  refine walk_keys.mono (fun H' e => e _ _ h) fun i Ha v Hc hi _ y => ?_
  obtain ⟨rfl, k, w, y1, rfl⟩ := y
  have key : ∀ {kvs : List (List Nat × D)} {ws : List (Key × V)} {i : Nat}, DenK Γ.en Hb kvs ws → ws[i]? = some (k, w) → ∃ kv, kvs[i]? = some kv ∧ k = Sum.inr ⟨kv.1.toArray⟩ := by
    intro kvs
    induction kvs with
    | nil => intro ws i h z; simp only [DenK] at h; subst h; simp at z
    | cons q kvs ih =>
      obtain ⟨y, d⟩ := q
      intro ws i h z
      simp only [DenK] at h
      obtain ⟨v', q', rfl, _, h2⟩ := h
      cases i with
      | zero =>
        have : ((Sum.inr ⟨y.toArray⟩ : Key), v') = (k, w) := by simpa using z
        injection this with e1 e2
        exact ⟨(y, d), rfl, e1.symm⟩
      | succ i =>
        obtain ⟨kv, z1, z2⟩ := ih h2 (by simpa using z)
        exact ⟨kv, by simpa using z1, z2⟩
  obtain ⟨kv, z1, rfl⟩ := key hd y1
  exact ⟨.s kv.1, by rw [List.getElem?_map, z1]; rfl, .inl ⟨rfl, by simp only [Den]; rfl⟩⟩
/-- y = [.. for x in a dict ..] on one line -/
theorem xs_setLcK (i j : Nat) {y z : Str} {py pz spos : Pos} {elt : Expr} {ifs : List Expr} {scope : Scope} {own : List (Str × Nat)} {kvs : List (List Nat × D)} {rs : List (List Nat)} (hL : Lc Γ scope own ix env ifs) (hy : Γ.N[i]? = some y) (hl : Γ.sc.names.lookup y = some .local)
    (hj : env[j]? = some (.v (.k kvs))) (hN : Γ.N[j]? = some z) (hv : Vis Γ.sc z) (hd : (z == ("__debug__" : Str)) = false) (hcd : (z == ("__classdict__" : Str)) = false)
    (hw : ∀ ev : Env, swapsWith (.ListComp elt [⟨tg, .Name z pz, ifs, 0⟩] scope pos) (some (.Name y py)) spos.line { ev with scope := Γ.sc } = pure true) (hg : XG (Γ.blk scope) tg ix put) (hz : kvs.length < 16777216)
    (hc : Comp (Γ.blk scope) put ifs elt (wipeE env (own.map (·.2))) (kvs.map fun kv => .s kv.1) (rs.map .s)) (hs : ∀ (ev : Env) x, foldedSetIterable (.Name z pz) ev x = pure x := by intro _ _; rfl) : XS Γ (.Assign [.Name y py] (.ListComp elt [⟨tg, .Name z pz, ifs, 0⟩] scope pos) spos) env (.nx (env.set i (.v (.l (rs.map .s))))) := by
  refine ⟨fun r ok pins s σ H H0 L P Dn I at0 q => ?_⟩
  obtain ⟨g, hg1, hg2⟩ := hg
  have main : PS (Γ.cx r) (.Assign [.Name y py] (.ListComp elt [⟨tg, .Name z pz, ifs, 0⟩] scope pos) spos) _ := ps_setLc (X := Γ.cx r) (i := i) (own := own) (g := g) (tt := tIfs (Γ.blk scope) ifs) (te := rE (Γ.blk scope) elt) (wi := iKeys (tVar j)) rfl hL.nd hy hl (hw r.env) (pi_keys (pe_var (X := Γ.cx r) hN hv hd hcd)) hL.ok (fun s H C cl fp => by
      obtain ⟨r', o', e⟩ := blk_ok ok scope s H C cl fp
      rw [e]; exact hg1 r' o') (fun s H C cl fp => by
      obtain ⟨r', o', e⟩ := blk_ok ok scope s H C cl fp
      rw [e]; exact pts_r o' hL.one) (fun s H C cl fp => by
      obtain ⟨r', o', e⟩ := blk_ok ok scope s H C cl fp
      rw [e]; exact pe_r o') (hs _)
  obtain ⟨v, v1, v2, v3⟩ := at0.sl j _ hj
  have v2' := v2
  simp only [Den] at v2'
  obtain ⟨dp, ws, rfl, w1, w2⟩ := v2'
  have rest : ∀ {Ha Hb : Hp} {ob : Obj} {Q : VK}, At Γ.en L Hb P env σ Ha → hid P Ha dp = some (.frz ob (.dK ws)) → DenK Γ.en (hid P Ha) kvs ws → (∀ v H', Ex Ha H' → Den Γ.en (hid P H') (.l (rs.map .s)) v → Q v H') → tLc (iKeys (tVar j)) g (tIfs (Γ.blk scope) ifs) (rE (Γ.blk scope) elt) (own.map (·.2)) σ Ha Q := fun {Ha Hb ob Q} a1 k1 k2 qq => by
    refine lc_read (fun R hR => ?_) hg2 hL.ix hL.pl hL.sh (by simpa using hz) hc a1 qq
    exact ⟨_, v1, dp, ob, rfl, .inl ⟨ws, hid_sub _ _ k1, hR _ Ha (Ex.refl _) (keys_walk k1 (fun _ => trivial) k2)⟩⟩
  rcases w1 with w1 | ⟨ob, w1⟩
  · obtain ⟨n1, n2⟩ := hid_some.mp w1
    refine (ps_lock main).run pins s σ H Dn I ⟨dp, _, n2, trivial, fun od => ?_⟩
    have hlk : Lk H (upd H dp (.frz od (.dK ws))) := fun a o ha => by
      by_cases ca : a = dp
      · subst ca
        rw [n2] at ha
        cases ha
        exact .inr ⟨⟨ws, rfl⟩, od, upd_same⟩
      · exact .inl (by rw [upd_ne ca]; exact ha)
    have a1 := at0.lock hlk fun p hp => upd_ne fun z => n1 (z ▸ hp)
    refine rest a1 (hid_some.mpr ⟨n1, upd_same⟩) (DenK.lock hlk.hid _ _ w2) fun v H' e1 hv => ?_
    have hdp := e1 _ _ (upd_same (H := H) (a := dp))
    refine ⟨hdp, ?_⟩
    have eH : Ex H (upd H' dp (.dK ws)) := fun a o ha => by
      by_cases ca : a = dp
      · subst ca
        rw [n2] at ha
        cases ha
        exact upd_same
      · rw [upd_ne ca]
        exact e1 _ _ (by rw [upd_ne ca]; exact ha)
    refine q _ _ _ ((at0.grow eH).setv ?_)
    simp only [Den] at hv ⊢
    obtain ⟨z1, vs, rfl, z2, z3⟩ := hv
    have zn : z1 ≠ dp := by
      rintro rfl
      rw [hid_sub _ _ z2] at hdp
      cases hdp
    obtain ⟨y1, y2⟩ := hid_some.mp z2
    rw [denL_s] at z3
    exact ⟨z1, vs, rfl, hid_some.mpr ⟨y1, by rw [upd_ne zn]; exact y2⟩, denL_s.mpr z3⟩
  · exact main.run pins s σ H Dn I (rest at0 w1 w2 fun v H' e1 hv => q _ _ _ ((at0.grow e1).setv hv))
end
end Q8
namespace Q8
open PySem L2 PyProof.Rows
section
variable {Γ : Ga} {r : Rt} {e a b c o tg : Expr} {es : List Expr} {env env' : List Sl} {d d' d1 d2 d3 : D} {ds : List D} {H H0 H' : Hp} {L P : List (Option Addr)} {σ : L2.St} {pos p apos : Pos} {x f : Str} {i : Nat}
/-! ### == of tuples of ints with () -/
theorem dp_ints {E : En} : ∀ {xs : List Int} {vs : List V}, DenL E H (xs.map .i) vs → DpAll E.K H vs (xs.map .int)
  | [], vs, h => by simp only [List.map_nil, DenL] at h; subst h; exact .nil
  | x :: xs, vs, h => by
    simp only [List.map_cons, DenL] at h
    obtain ⟨v, r, rfl, h1, h2⟩ := h
    simp only [Den] at h1
    subst h1
    exact .cons (.int _) (dp_ints h2)
theorem ints_lay : ∀ xs : List Int, PyData.canLayAll0 (xs.map .int) = true ∧ PyData.depthAll (xs.map .int) = 0
  | [] => ⟨by simp [PyData.canLayAll0], by simp [PyData.depthAll]⟩
  | x :: xs => by
    obtain ⟨h1, h2⟩ := ints_lay xs
    exact ⟨by simp [PyData.canLayAll0, PyData.canLay0, h1], by simp [PyData.depthAll, PyData.depth, h2]⟩
theorem xt_eq0 {ns : List Int} (ha : XE Γ a env (.t (ns.map .i))) (hb : XE Γ b env (.t [])) (hm : behindInMarks .Eq b = false := by first | exact nobehind _ (by decide) (by decide)) : XT Γ (.Compare a [.Eq] [b] pos) env (decide (ns = [])) := xt_of fun r ok =>
  ⟨_, pt_cmpR (X := Γ.cx r) (op_eqD (Nat.lt_of_le_of_lt (by show r.A.units + 64 ≤ r.A.units + 16 * Γ.k + 200; omega) ok.room.un)) (pe_r ok) (pe_r ok) hm, fun σ H H0 L P Q at0 q => ha.rd at0 fun v H1 e1 g1 => hb.rd (at0.grow e1) fun u H2 e2 g2 => by
    have g1' := g1.mono (hid_mono e2)
    simp only [Den] at g1' g2
    obtain ⟨p1, vs, rfl, k1, k2⟩ := g1'
    obtain ⟨p2, ws, rfl, k3, k4⟩ := g2
    obtain ⟨l1, l2⟩ := ints_lay ns
    refine ⟨.tuple (ns.map .int), .tuple [], .tup (ex_t hid_sub k1) (dp_ints (k2.mono hid_sub)), .tup (ex_t hid_sub k3) (by simp only [DenL] at k4; subst k4; exact .nil), ?_, ?_, ?_⟩
    · unfold SeqAt.shaped; simp [PyData.canLay0, PyData.depth, l1, l2]
    · unfold SeqAt.shaped; simp [PyData.canLay0, PyData.depth, PyData.canLayAll0, PyData.depthAll]
    · have e : PyData.eqv (.tuple (ns.map .int)) (.tuple []) = decide (ns = []) := by
        cases ns <;> simp [PyData.eqv, PyData.eqvAll]
      rw [e]
      exact ⟨_, rfl, q H2 (e1.trans e2)⟩⟩
/-! ### == of the same stamps -/
abbrev Txt := List Nat
def stD (st : List (List Nat × List Nat)) : List D := st.map fun q => .l [.s q.1, .s q.2]
def stP (st : List (List Nat × List Nat)) : List PyData := st.map fun q => .list [.str ⟨q.1.toArray⟩, .str ⟨q.2.toArray⟩]
theorem dp_st {E : En} : ∀ {st : List (List Nat × List Nat)} {vs : List V}, DenL E H (stD st) vs → DpAll E.K H vs (stP st)
  | [], vs, h => by simp only [stD, List.map_nil, DenL] at h; subst h; exact .nil
  | x :: xs, vs, h => by
    simp only [stD, List.map_cons, DenL] at h
    obtain ⟨v, r, rfl, h1, h2⟩ := h
    simp only [Den] at h1
    obtain ⟨p, ws, rfl, h3, h4⟩ := h1
    simp only [DenL, Den] at h4
    obtain ⟨v1, r1, rfl, rfl, v2, r2, rfl, rfl, rfl⟩ := h4
    exact .cons (.lst (SqL.of h3) (.cons (.str _) (.cons (.str _) .nil))) (dp_st h2)
theorem st_lay : ∀ {st : List (List Nat × List Nat)}, (∀ q ∈ st, (∀ c ∈ q.1, c < 1114112) ∧ ∀ c ∈ q.2, c < 1114112) → PyData.canLayAll0 (stP st) = true ∧ PyData.depthAll (stP st) ≤ 1 ∧ PyData.eqvAll (stP st) (stP st) = true
  | [], _ => ⟨by simp [stP, PyData.canLayAll0], by simp [stP, PyData.depthAll], by simp [stP, PyData.eqvAll]⟩
  | x :: xs, h => by
    obtain ⟨h1, h2, h3⟩ := st_lay (st := xs) fun q hq => h q (List.mem_cons_of_mem _ hq)
    have so : ∀ x : List Nat, (∀ c ∈ x, c < 1114112) → PyData.strOk ⟨x.toArray⟩ = true := fun x h => by
      unfold PyData.strOk
      simpa using h
    obtain ⟨a1, a2⟩ := h x List.mem_cons_self
    unfold stP at h1 h2 h3 ⊢
    rw [List.map_cons]
    refine ⟨by simp [PyData.canLayAll0, PyData.canLay0, h1, so _ a1, so _ a2], ?_, by simp [PyData.eqvAll, PyData.eqv, h3]⟩
    simp [PyData.depthAll, PyData.depth]
    omega
theorem xe_eqSt {st : List (List Nat × List Nat)} (ha : XE Γ a env (.l (stD st))) (hb : XE Γ b env (.l (stD st))) (ho : ∀ q ∈ st, (∀ c ∈ q.1, c < 1114112) ∧ ∀ c ∈ q.2, c < 1114112) (hm : behindInMarks .Eq b = false := by first | exact nobehind _ (by decide) (by decide)) : XE Γ (.Compare a [.Eq] [b] pos) env (.b true) := xe_of fun r ok =>
  ⟨_, pe_cmpR (X := Γ.cx r) (op_eqD (Nat.lt_of_le_of_lt (by show r.A.units + 64 ≤ r.A.units + 16 * Γ.k + 200; omega) ok.room.un)) (pe_r ok) (pe_r ok) hm, fun σ H H0 L P Q at0 q => ha.rd at0 fun v H1 e1 g1 => hb.rd (at0.grow e1) fun u H2 e2 g2 => by
    have g1' := g1.mono (hid_mono e2)
    simp only [Den] at g1' g2
    obtain ⟨p1, vs, rfl, k1, k2⟩ := g1'
    obtain ⟨p2, ws, rfl, k3, k4⟩ := g2
    obtain ⟨l1, l2, l3⟩ := st_lay ho
    have sh : SeqAt.shaped (.list (stP st)) = true := by
      unfold SeqAt.shaped
      simp [PyData.canLay0, PyData.depth, l1]
      omega
    refine ⟨.list (stP st), .list (stP st), .lst (SqL.of (hid_sub _ _ k1)) (dp_st (k2.mono hid_sub)), .lst (SqL.of (hid_sub _ _ k3)) (dp_st (k4.mono hid_sub)), sh, sh, ?_⟩
    have e : PyData.eqv (.list (stP st)) (.list (stP st)) = true := by simp [PyData.eqv, l3]
    rw [e]
    exact q _ H2 (e1.trans e2) (by simp only [Den])⟩
/-! ### f(k = v, ..) -/
def tCall0 (m : Nat) (sp : Sp) (gV : List V → List V → List V) (E : XK) (tk : TA) : TE := fun σ H Q => tk σ H fun zs H2 => zs.length = m ∧ sp (gV [] zs) H2 Q E
theorem pe_callK0 {X : Cx} {CX : CXT} {k : Nat} {f : Addr} {fd : FuncData} {ps ks : List Str} {sp : Sp} {E : XK} {kws : List Keyword} {tk : TA} {g : List Value → List Value → List Value} {gV : List V → List V → List V} (F : FnOk X.prog X.w X.K X.mg X.base CX k f fd ps sp) (hr : Room k X.A) (hg : Gl X x) (hm : X.mg x = some (.ref f)) (hk : PySem.W.keepIn X.K (.ref f) = true) (hb : KBn X.K fd ps 0 ks g gV) (hx : Passes CX X E)
    (hkw : PK X kws tk) (hall : (backToKw pos (keywordEach kws X.env)).all (·.1.isSome) = true) (hks : (backToKw pos (keywordEach kws X.env)).filterMap (·.1) = ks)
    (hdb : (x == ("__debug__" : Str)) = false) (hpl : ((backTo pos (starEach [] X.env)).any (·.1) || (backToKw pos (keywordEach kws X.env)).any (·.1.isNone)) = false) : PE X (.Call (.Name x p) [] kws pos) (tCall0 ks.length sp gV E tk) := by
  refine ⟨fun pins s σ H Q I h => wpAny_Call_Name_kw (ld_glob I hg hm ?_ hdb)⟩
  refine PySem.W.callWith_KW0 (h₀ := X.base) I.ok.mod.kin hk hall ?_ hpl
  refine thn (hkw.run pos pins s σ H _ I h) fun ws s2 ⟨zs, H2, I2, rz, l2, q2⟩ => ⟨I2.kIn, ?_⟩
  rw [hks]
  exact run_fnN (us := []) (vs := []) F hr hb hx I2 .nil rz rfl l2 q2
/-- a def of two parameters called by keywords in the other order -/
structure KnK (W : Wd) (x : Str) (k : Nat) (ks : List Str) (R : List D → D → Prop) : Prop where
  ex : ∃ f fd ps, FnOk W.P W.w W.K W.mg W.base CX0 k f fd ps (spD W.en R) ∧ W.mg x = some (.ref f) ∧ PySem.W.keepIn W.K (.ref f) = true ∧ ∃ g : List Value → List Value → List Value, KBn W.K fd ps 0 ks g (fun _ zs => zs.reverse)
theorem xe_callK2 {k : Nat} {y1 y2 : Str} {kp1 kp2 : Pos} {R : List D → D → Prop} (F : KnK Γ.wd x k [y1, y2] R) (hk : k ≤ Γ.k) (ha : XE Γ a env d1) (hb : XE Γ b env d2) (hR : R [d2, d1] d) (hg : Gl' Γ x := by rfl) (hdb : (x == ("__debug__" : Str)) = false := by decide) : XE Γ (.Call (.Name x p) [] [⟨some y1, a, kp1⟩, ⟨some y2, b, kp2⟩] pos) env d := by
  obtain ⟨f, fd, ps, h1, h2, h3, g, h4⟩ := F.ex
  refine xe_of fun r ok => ⟨_, pe_callK0 (X := Γ.cx r) h1 (ok.room.mono hk) hg h2 h3 h4 pass0 (pk_cons (pe_r ok) (pk_cons (pe_r ok) pk_nil)) rfl rfl hdb rfl, fun σ H H0 L P Q at0 q => ha.rd at0 fun v H1 e1 g1 => hb.rd (at0.grow e1) fun u H2 e2 g2 => ⟨rfl, ?_⟩⟩
  exact ⟨[d2, d1], d, P, hR, g2.cons ((g1.mono (hid_mono e2)).cons DenL.nil), (at0.grow (e1.trans e2)).nd, (at0.grow (e1.trans e2)).tr, fun z H' e3 g3 => q z H' ((e1.trans e2).trans e3) g3⟩
end
end Q8
/-! Walking the bodies. -/
namespace Q8
open PySem L2 PyProof.Rows
/-- two lists, item by item -/
inductive All2 {α β : Type} (R : α → β → Prop) : List α → List β → Prop
  | nil : All2 R [] []
  | cons {a : α} {b : β} {l : List α} {m : List β} : R a b → All2 R l m → All2 R (a :: l) (b :: m)
theorem All2.len {α β : Type} {R : α → β → Prop} : ∀ {l : List α} {m : List β}, All2 R l m → m.length = l.length
  | _, _, .nil => rfl
  | _, _, .cons _ t => by simp [t.len]
theorem All2.get {α β : Type} {R : α → β → Prop} : ∀ {l : List α} {m : List β}, All2 R l m → ∀ (i : Nat) (h : i < l.length) (h' : i < m.length), R l[i] m[i]
  | _, _, .nil, i, h, _ => absurd h (by simp)
  | _, _, .cons r t, 0, _, _ => r
  | _, _, .cons r t, i + 1, h, h' => t.get i (by simpa using h) (by simpa using h')
theorem All2.right {α β : Type} {R : α → β → Prop} {P : β → Prop} (hp : ∀ a b, R a b → P b) : ∀ {l : List α} {m : List β}, All2 R l m → ∀ b ∈ m, P b
  | _, _, .nil, b, h => by simp at h
  | _, _, .cons r t, b, h => by
    rcases List.mem_cons.mp h with rfl | h
    · exact hp _ _ r
    · exact All2.right hp t b h
def top (i : Nat) : Stmt := PySem.Challenge.pw_stampsheets_k38_compare_whole.main.body.getD i (.Pass ⟨0, 0, 0, 0⟩)
def whC : Stmt → Expr
  | .While (test := c) .. => c
  | _ => .Constant .none 0 ⟨0, 0, 0, 0⟩
def whB : Stmt → List Stmt
  | .While (body := b) .. => b
  | .For (body := b) .. => b
  | _ => []
def whT : Stmt → List Stmt
  | .If (body := b) .. => b
  | _ => []
abbrev stAt (b : List Stmt) (i : Nat) : Stmt := b.getD i (.Pass ⟨0, 0, 0, 0⟩)
theorem kit_refl (K : PySem.W.Frag) (t : Value) : PySem.W.kitOne K t t = some true := by
  unfold PySem.W.kitOne
  simp
/-- what a body gives -/
def RB (W : Wd) (N : List Str) (sc : Scope) (k : Nat) (body : List Stmt) (n : Nat) (ds : List D) (d : D) : Prop :=
  ds.length = n ∧ ∃ out, Gives1 out d ∧ XSs (W.ga N sc k) body (ds.map .v ++ List.replicate (N.length - n) .no) out
/-- what an __init__ leaves -/
def RI (W : Wd) (N : List Str) (sc : Scope) (k : Nat) (body : List Stmt) (n c : Nat) (as ds : List D) : Prop :=
  as.length + 1 = n ∧ ∀ p dx, ∃ env', XSs (W.ga N sc k) body (.oi p dx c [] :: as.map .v ++ List.replicate (N.length - n) .no) (.nx (.oi p dx c ds :: env'))
section
variable {Γ : Ga} {r : Rt} {e a b c o tg iter : Expr} {es : List Expr} {env env' e1 : List Sl} {d d' d1 d2 d3 : D} {ds : List D} {pos p apos : Pos} {x f : Str} {put : List Sl → D → List Sl → Prop} {ix : List Nat} {body rest y z : List Stmt} {out : Out}
theorem xv (i : Nat) (hN : Γ.N[i]? = some x := by rfl) (he : env[i]? = some (.v d) := by rfl) (hv : Vis Γ.sc x := by first | exact Or.inl rfl | exact Or.inr (Or.inl rfl) | exact Or.inr (Or.inr rfl)) (hd : (x == ("__debug__" : Str)) = false := by decide +kernel) (hcd : (x == ("__classdict__" : Str)) = false := by decide +kernel) : XE Γ (.Name x pos) env d := xe_var i he hN hv hd hcd
theorem XE.eq (h : XE Γ e env d) (he : d = d') : XE Γ e env d' := he ▸ h
theorem XT.eq {t u : Bool} (h : XT Γ e env t) (he : t = u) : XT Γ e env u := he ▸ h
theorem xs_retE (h : XE Γ e env d) (he : d = d') : XS Γ (.Return (some e) pos) env (.rt d') := xs_ret (he ▸ h)
theorem xss_form {st : Stmt} (h : XSs Γ (st :: rest) env out) : XSs Γ (st :: rest) env out := h
theorem xss_setX (i : Nat) {p2 : Pos} (pt : Put Γ i x) (h : ∃ d, XE Γ e env d ∧ XSs Γ rest (env.set i (.v d)) out) (hs : ∀ ev : Env, swapsWith e (some (.Name x p2)) pos.line { ev with scope := Γ.sc } = pure false := by intro _; rfl) : XSs Γ (.Assign [.Name x p2] e pos :: rest) env out := by
  obtain ⟨d, h1, h2⟩ := h
  exact xss_cons (xs_set i h1 pt hs) h2
theorem xss_retX {d : D} (h : ∃ d', XE Γ e env d' ∧ d' = d) : XSs Γ [.Return (some e) pos] env (.rt d) := by
  obtain ⟨d', h1, rfl⟩ := h
  exact xss_one (xs_ret h1)
theorem xss_exprX (h : ∃ d, XE Γ e env d) (h2 : XSs Γ rest env out) (hs : ∀ ev : Env, swapsWith e none pos.line { ev with scope := Γ.sc } = pure false := by intro _; rfl) : XSs Γ (.Expr e pos :: rest) env out := by
  obtain ⟨d, h1⟩ := h
  exact xss_cons (xs_expr h1 hs) h2
/-- a statement, then the rest -/
inductive XThen (Γ : Ga) (x rest : List Stmt) (env : List Sl) : Out → Prop
  | lv {out : Out} (h : XSs Γ x env out) (hl : Leaves out) : XThen Γ x rest env out
  | nx {out : Out} {e : List Sl} (h : XSs Γ x env (.nx e)) (h2 : XSs Γ rest e out) : XThen Γ x rest env out
theorem xss_ite {t : Bool} (h : XT Γ c env t) (h1 : t = true → XThen Γ y rest env out) (h2 : t = false → XThen Γ z rest env out) : XSs Γ (.If c y z pos :: rest) env out := by
  cases t with
  | true =>
    cases h1 rfl with
    | lv h3 hl => exact xss_stop hl (xs_if h (fun _ => h3) fun z => nomatch z)
    | nx h3 h4 => exact xss_cons (xs_if h (fun _ => h3) fun z => nomatch z) h4
  | false =>
    cases h2 rfl with
    | lv h3 hl => exact xss_stop hl (xs_if h (fun z => nomatch z) fun _ => h3)
    | nx h3 h4 => exact xss_cons (xs_if h (fun z => nomatch z) fun _ => h3) h4
theorem xss_ifX (h : ∃ t, XT Γ c env t ∧ (t = true → XThen Γ y rest env out) ∧ (t = false → XThen Γ z rest env out)) : XSs Γ (.If c y z pos :: rest) env out := by
  obtain ⟨t, h1, h2, h3⟩ := h
  exact xss_ite h1 h2 h3
theorem XThen.ret (h : XSs Γ y env (.rt d)) : XThen Γ y rest env (.rt d) := .lv h (.rt d)
theorem XThen.skip (h : XSs Γ rest env out) : XThen Γ [] rest env out := .nx xss_nil h
/-- a loop, then the rest -/
theorem xss_for (hi : XI Γ tg iter env ds) (hg : XG Γ tg ix put) (hl : (∃ e', Loop Γ put body env ds (.nx e') ∧ XSs Γ rest e' out) ∨ (Loop Γ put body env ds out ∧ Leaves out)) (hs : ∀ (ev : Env) x, foldedSetIterable iter ev x = pure x := by intro _ _; rfl) : XSs Γ (.For tg iter body [] pos :: rest) env out := by
  rcases hl with ⟨e', h1, h2⟩ | ⟨h1, h2⟩
  · exact xss_cons (xs_for hi hg h1 hs) h2
  · exact xss_stop h2 (xs_for hi hg h1 hs)
theorem pt_ {i : Nat} (nd : Γ.N.Nodup := by (dsimp only [Wd.ga, Ga.blk]; decide +kernel)) (hx : Γ.N[i]? = some x := by rfl) (hl : Loc Γ.sc x := by first | exact Or.inl rfl | exact Or.inr rfl) (hf : Γ.df = true ∨ Γ.sc.names.lookup x = some .local := by first | exact Or.inl rfl | exact Or.inr rfl) : Put Γ i x := ⟨nd, hx, hl, hf⟩
theorem xg1 (i : Nat) (p : Put Γ i x) : XG Γ (.Name x pos) [i] (putN i) := xg_name i p
theorem putn (i : Nat) (h : i < env.length := by (first | (simp; done) | (simp [wipeE]; done))) : putN i env d (env.set i (.v d)) := ⟨h, rfl⟩
theorem putt (i j : Nat) {x y : D} (h : i < env.length := by (first | (simp; done) | (simp [wipeE]; done))) (h2 : j < env.length := by (first | (simp; done) | (simp [wipeE]; done))) : put2 i j env (.t [x, y]) ((env.set i (.v x)).set j (.v y)) := ⟨h, h2, x, y, rfl, rfl⟩
/-! ### if as an expression -/
theorem xe_iteS {t : Bool} {x y : List Nat} (h : XT Γ c env t) (h1 : t = true → XE Γ a env (.s x)) (h2 : t = false → XE Γ b env (.s y)) : XE Γ (.IfExp c a b pos) env (.s (if t = true then x else y)) := by
  cases t with
  | true => exact xe_if h h1 fun z => nomatch z
  | false => exact xe_if h (fun z => nomatch z) h2
theorem xe_ite {t : Bool} (h : XT Γ c env t) (h1 : t = true → XE Γ a env d1) (h2 : t = false → XE Γ b env d2) : XE Γ (.IfExp c a b pos) env (if t = true then d1 else d2) := by
  cases t with
  | true => exact xe_if h h1 fun z => nomatch z
  | false => exact xe_if h (fun z => nomatch z) h2
/-! ### places -/
theorem itS {xs : List Nat} {k : Int} (n : Nat) (hk : k = n) (hn : n < xs.length) (hl : xs.length ≤ 100000) : ItemD (.s xs) k (.s [xs.getD n 0]) := by
  subst hk
  exact .s (by omega) hl (by rw [Int.toNat_natCast, List.getD_eq_getElem?_getD, List.getElem?_eq_getElem hn]; rfl)
theorem itL {α : Type} {f : α → D} {xs : List α} {k : Int} (n : Nat) (hk : k = n) (d0 : α) (hn : n < xs.length) : ItemD (.l (xs.map f)) k (f (xs.getD n d0)) := by
  subst hk
  exact .l (by omega) (by rw [Int.toNat_natCast, List.getElem?_map, List.getD_eq_getElem?_getD, List.getElem?_eq_getElem hn]; rfl)
theorem itT {α : Type} {f : α → D} {xs : List α} {k : Int} (n : Nat) (hk : k = n) (d0 : α) (hn : n < xs.length) : ItemD (.t (xs.map f)) k (f (xs.getD n d0)) := by
  subst hk
  exact .t (by omega) (by rw [Int.toNat_natCast, List.getElem?_map, List.getD_eq_getElem?_getD, List.getElem?_eq_getElem hn]; rfl)
theorem itI {xs : List Int} {k : Int} (n : Nat) (hk : k = n) (hn : n < xs.length) : ItemD (.l (xs.map .i)) k (.i (xs.getD n 0)) := itL (f := .i) n hk 0 hn
/-- a place in a written list -/
theorem itW {ds : List D} {k : Int} (n : Nat) (hk : k = n) (h : ds[n]? = some d) : ItemD (.l ds) k d := by subst hk; exact .l (by omega) (by rw [Int.toNat_natCast]; exact h)
theorem itWT {ds : List D} {k : Int} (n : Nat) (hk : k = n) (h : ds[n]? = some d) : ItemD (.t ds) k d := by subst hk; exact .t (by omega) (by rw [Int.toNat_natCast]; exact h)
/-- [x, y][int(test)] -/
theorem it2 {t : Bool} : ItemD (.l [d1, d2]) (if t then 1 else 0) (if t = true then d2 else d1) := by
  cases t
  · exact .l (by simp) (by simp)
  · exact .l (by simp) (by simp)
theorem it2S {t : Bool} {x y : List Nat} : ItemD (.l [.s x, .s y]) (if t then 1 else 0) (.s (if t = true then y else x)) := by
  cases t
  · exact .l (by simp) (by simp)
  · exact .l (by simp) (by simp)
/-! ### slices -/
inductive SlD : D → Option Int → Option Int → D → Prop
  | s (x : List Nat) (k l : Option Int) (h : x.length ≤ 100000) : SlD (.s x) k l (.s (cutD x k l))
  | l (x : List D) (k l : Option Int) : SlD (.l x) k l (.l (cutD x k l))
theorem xe_sl {lo hi : Option Expr} {k l : Option Int} {p2 : Pos} (ha : XE Γ a env d1) (h1 : PartD Γ lo env k) (h2 : PartD Γ hi env l) (h : SlD d1 k l d) : XE Γ (.Subscript a (.Slice lo hi none p2) pos) env d := by
  cases h with
  | s x k l h => exact xe_slS ha h1 h2 h
  | l x k l => exact xe_slL ha h1 h2
theorem xe_joinE {ys : List (List Nat)} {zs : List Nat} (ho : XE Γ o env (.s [])) (ha : XE Γ a env (.l (ys.map .s))) (he : ys.flatten = zs) (hl : zs.length ≤ 100000) (hs : ∀ ev : Env, starEach [a] ev = [(false, eval a ev)] := by intro _; rfl) (hb : ∀ ev : Env, attributeBase o "join" ev (eval o ev) = eval o ev := by intro _; rfl) (hline : (apos.endLine == pos.line) = true := by rfl) :
    XE Γ (.Call (.Attribute o "join" apos) [a] [] pos) env (.s zs) := by
  subst he
  exact xe_join ho ha hl hs hb hline
/-! ### comprehensions -/
theorem comp_map {Γb : Ga} {elt : Expr} {env : List Sl} {α : Type} {f g : α → D} : ∀ {l : List α}, (∀ a ∈ l, ∃ e1 d, put env (f a) e1 ∧ XE Γb elt e1 d ∧ d = g a) → Comp Γb put [] elt env (l.map f) (l.map g)
  | [], _ => .nil
  | a :: l, h => by
    obtain ⟨e1, d, h1, h2, h3⟩ := h a List.mem_cons_self
    exact .take0 rfl h1 (h3 ▸ h2) (comp_map fun b hb => h b (List.mem_cons_of_mem _ hb))
theorem comp_mapS {Γb : Ga} {elt : Expr} {env : List Sl} {α : Type} {f : α → D} {g : α → List Nat} {l : List α} (h : ∀ a ∈ l, ∃ e1 d, put env (f a) e1 ∧ XE Γb elt e1 d ∧ d = .s (g a)) : Comp Γb put [] elt env (l.map f) ((l.map g).map .s) := by
  rw [List.map_map]
  exact comp_map h
theorem comp_filter {Γb : Ga} {elt c : Expr} {env : List Sl} {α : Type} {f g : α → D} {t : α → Bool} : ∀ {l : List α}, (∀ a ∈ l, ∃ e1, put env (f a) e1 ∧ XT Γb c e1 (t a) ∧ (t a = true → ∃ d, XE Γb elt e1 d ∧ d = g a)) → Comp Γb put [c] elt env (l.map f) ((l.filter t).map g)
  | [], _ => .nil
  | a :: l, h => by
    obtain ⟨e1, h1, h2, h3⟩ := h a List.mem_cons_self
    have ih := comp_filter (l := l) (t := t) (g := g) (f := f) fun b hb => h b (List.mem_cons_of_mem _ hb)
    cases ht : t a with
    | true =>
      rw [List.filter_cons_of_pos (by simpa using ht)]
      obtain ⟨d, h4, h5⟩ := h3 ht
      exact .take rfl h1 (ht ▸ h2) (h5 ▸ h4) ih
    | false =>
      rw [List.filter_cons_of_neg (by simp [ht])]
      exact .skip rfl h1 (ht ▸ h2) ih
theorem comp_filterS {Γb : Ga} {elt c : Expr} {env : List Sl} {α : Type} {f : α → D} {g : α → List Nat} {t : α → Bool} {l : List α} (h : ∀ a ∈ l, ∃ e1, put env (f a) e1 ∧ XT Γb c e1 (t a) ∧ (t a = true → ∃ d, XE Γb elt e1 d ∧ d = .s (g a))) : Comp Γb put [c] elt env (l.map f) (((l.filter t).map g).map .s) := by
  rw [List.map_map]
  exact comp_filter h
/-- items of which each is only known to be right -/
theorem comp_ex {Γb : Ga} {elt : Expr} {env : List Sl} {α β : Type} {f : α → D} {g : β → D} {R : α → β → Prop} : ∀ {l : List α}, (∀ a ∈ l, ∃ e1 b, put env (f a) e1 ∧ XE Γb elt e1 (g b) ∧ R a b) → ∃ m : List β, Comp Γb put [] elt env (l.map f) (m.map g) ∧ All2 R l m
  | [], _ => ⟨[], .nil, .nil⟩
  | a :: l, h => by
    obtain ⟨e1, b, h1, h2, h3⟩ := h a List.mem_cons_self
    obtain ⟨m, h4, h5⟩ := comp_ex (l := l) (g := g) (R := R) (f := f) fun b hb => h b (List.mem_cons_of_mem _ hb)
    exact ⟨b :: m, .take0 rfl h1 h2 h4, .cons h3 h5⟩
theorem XSs.weakB {st : List Stmt} {e2 e3 : List Sl} (h : XSs Γ st env (.bk e2)) (w : Wk e2 e3) : XSs Γ st env (.bk e3) := ⟨fun r o pins s σ H H0 L P Dn I at0 q => h.run r o pins s σ H H0 L P Dn I at0 fun P σ H a => let ⟨P', a'⟩ := At.weak w a; q P' σ H a'⟩
/-- a loop by its states -/
theorem loop_fold {S α : Type} {f : α → D} {E : S → List Sl} {step : S → α → S} : ∀ {l : List α} {s : S}, (∀ s, ∀ a ∈ l, ∃ e1 e2, put (E s) (f a) e1 ∧ XSs Γ body e1 (.nx e2) ∧ Wk e2 (E (step s a))) → Loop Γ put body (E s) (l.map f) (.nx (E (l.foldl step s)))
  | [], s, _ => .nil
  | a :: l, s, h => by
    obtain ⟨e1, e2, h1, h2, h3⟩ := h s a List.mem_cons_self
    exact .nx h1 h2 h3 (loop_fold (s := step s a) fun s b hb => h s b (List.mem_cons_of_mem _ hb))
/-- a loop that looks for something -/
theorem loop_find {α : Type} {f : α → D} {E : List Sl} {test : α → Bool} {res : α → D} : ∀ {l : List α}, (∀ a ∈ l, ∃ e1, put E (f a) e1 ∧ (test a = true → XSs Γ body e1 (.rt (res a))) ∧ (test a = false → ∃ e2, XSs Γ body e1 (.nx e2) ∧ Wk e2 E)) →
    (∃ a, l.find? test = some a ∧ Loop Γ put body E (l.map f) (.rt (res a))) ∨ (l.find? test = none ∧ Loop Γ put body E (l.map f) (.nx E))
  | [], _ => .inr ⟨rfl, .nil⟩
  | a :: l, h => by
    obtain ⟨e1, h1, h2, h3⟩ := h a List.mem_cons_self
    cases ht : test a with
    | true => exact .inl ⟨a, by rw [List.find?_cons_of_pos ht], .rt h1 (h2 ht)⟩
    | false =>
      obtain ⟨e2, h4, h5⟩ := h3 ht
      have e : (a :: l).find? test = l.find? test := List.find?_cons_of_neg (by simp [ht])
      rw [e]
      rcases loop_find (l := l) fun b hb => h b (List.mem_cons_of_mem _ hb) with ⟨b, z1, z2⟩ | ⟨z1, z2⟩
      · exact .inl ⟨b, z1, .nx h1 h4 h5 z2⟩
      · exact .inr ⟨z1, .nx h1 h4 h5 z2⟩
theorem xss_find {α : Type} {f : α → D} {test : α → Bool} {res : α → D} {l : List α} (hi : XI Γ tg iter env (l.map f)) (hg : XG Γ tg ix put) (h : ∀ a ∈ l, ∃ e1, put env (f a) e1 ∧ (test a = true → XSs Γ body e1 (.rt (res a))) ∧ (test a = false → ∃ e2, XSs Γ body e1 (.nx e2) ∧ Wk e2 env))
    (hf : ∀ a, l.find? test = some a → out = .rt (res a)) (hr : l.find? test = none → XSs Γ rest env out) (hs : ∀ (ev : Env) x, foldedSetIterable iter ev x = pure x := by intro _ _; rfl) : XSs Γ (.For tg iter body [] pos :: rest) env out := by
  rcases loop_find h with ⟨a, z1, z2⟩ | ⟨z1, z2⟩
  · rw [hf a z1]
    exact xss_for hi hg (.inr ⟨z2, .rt _⟩) hs
  · exact xss_for hi hg (.inl ⟨_, z2, hr z1⟩) hs
theorem xss_findIf {α : Type} {f : α → D} {test : α → Bool} {res : α → D} {l : List α} {p1 p2 : Pos} (hi : XI Γ tg iter env (l.map f)) (hg : XG Γ tg ix put) (h : ∀ a ∈ l, ∃ e1, put env (f a) e1 ∧ XT Γ c e1 (test a) ∧ (test a = true → XE Γ e e1 (res a)) ∧ Wk e1 env)
    (hf : ∀ a, l.find? test = some a → out = .rt (res a)) (hr : l.find? test = none → XSs Γ rest env out) (hs : ∀ (ev : Env) x, foldedSetIterable iter ev x = pure x := by intro _ _; rfl) : XSs Γ (.For tg iter [.If c [.Return (some e) p1] [] p2] [] pos :: rest) env out := by
  refine xss_find (test := test) (res := res) hi hg (fun a ha => ?_) hf hr hs
  obtain ⟨e1, h1, h2, h3, h4⟩ := h a ha
  exact ⟨e1, h1, fun ht => xss_ite h2 (fun _ => .ret (xss_one (xs_ret (h3 ht)))) (fun z => by rw [ht] at z; cases z), fun ht => ⟨e1, xss_ite h2 (fun z => by rw [ht] at z; cases z) (fun _ => .skip xss_nil), h4⟩⟩
theorem xss_fold {S α : Type} {f : α → D} {E : S → List Sl} {step : S → α → S} {l : List α} {s : S} (hi : XI Γ tg iter (E s) (l.map f)) (hg : XG Γ tg ix put) (h : ∀ s, ∀ a ∈ l, ∃ e1 e2, put (E s) (f a) e1 ∧ XSs Γ body e1 (.nx e2) ∧ Wk e2 (E (step s a)))
    (hr : XSs Γ rest (E (l.foldl step s)) out) (hs : ∀ (ev : Env) x, foldedSetIterable iter ev x = pure x := by intro _ _; rfl) : XSs Γ (.For tg iter body [] pos :: rest) (E s) out :=
  xss_for hi hg (.inl ⟨_, loop_fold h, hr⟩) hs
theorem xss_foldI {S α : Type} {f : α → D} {E : S → List Sl} {step : S → α → S} (Iv : S → Prop) {l : List α} {s : S} (h0 : Iv s) (hi : XI Γ tg iter (E s) (l.map f)) (hg : XG Γ tg ix put) (h : ∀ s, Iv s → ∀ a ∈ l, Iv (step s a) ∧ ∃ e1 e2, put (E s) (f a) e1 ∧ XSs Γ body e1 (.nx e2) ∧ Wk e2 (E (step s a)))
    (hr : Iv (l.foldl step s) → XSs Γ rest (E (l.foldl step s)) out) (hs : ∀ (ev : Env) x, foldedSetIterable iter ev x = pure x := by intro _ _; rfl) : XSs Γ (.For tg iter body [] pos :: rest) (E s) out := by
  have key : ∀ (l : List α) (s : S), (∀ s, Iv s → ∀ a ∈ l, Iv (step s a) ∧ ∃ e1 e2, put (E s) (f a) e1 ∧ XSs Γ body e1 (.nx e2) ∧ Wk e2 (E (step s a))) → Iv s → Iv (l.foldl step s) ∧ Loop Γ put body (E s) (l.map f) (.nx (E (l.foldl step s))) := by
    intro l
    induction l with
    | nil => exact fun s _ h => ⟨h, .nil⟩
    | cons a l ih =>
      intro s h h0
      obtain ⟨h1, e1, e2, h2, h3, h4⟩ := h s h0 a List.mem_cons_self
      obtain ⟨z1, z2⟩ := ih (step s a) (fun s hs b hb => h s hs b (List.mem_cons_of_mem _ hb)) h1
      exact ⟨z1, .nx h2 h3 h4 z2⟩
  obtain ⟨z1, z2⟩ := key l s h h0
  exact xss_for hi hg (.inl ⟨_, z2, hr z1⟩) hs
theorem xss_foldN {S α : Type} {f : α → D} {E : S → List Sl} {step : S → α → S} (Iv : Nat → S → Prop) {l : List α} {s : S} (h0 : Iv 0 s) (hi : XI Γ tg iter (E s) (l.map f)) (hg : XG Γ tg ix put) (h : ∀ i s a, l[i]? = some a → Iv i s → Iv (i + 1) (step s a) ∧ ∃ e1 e2, put (E s) (f a) e1 ∧ XSs Γ body e1 (.nx e2) ∧ Wk e2 (E (step s a)))
    (hr : Iv l.length (l.foldl step s) → XSs Γ rest (E (l.foldl step s)) out) (hs : ∀ (ev : Env) x, foldedSetIterable iter ev x = pure x := by intro _ _; rfl) : XSs Γ (.For tg iter body [] pos :: rest) (E s) out := by
  have key : ∀ (l : List α) (n : Nat) (s : S), (∀ i s a, l[i]? = some a → Iv (n + i) s → Iv (n + i + 1) (step s a) ∧ ∃ e1 e2, put (E s) (f a) e1 ∧ XSs Γ body e1 (.nx e2) ∧ Wk e2 (E (step s a))) → Iv n s → Iv (n + l.length) (l.foldl step s) ∧ Loop Γ put body (E s) (l.map f) (.nx (E (l.foldl step s))) := by
    intro l
    induction l with
    | nil => exact fun n s _ h => ⟨h, .nil⟩
    | cons a l ih =>
      intro n s h h0
      obtain ⟨h1, e1, e2, h2, h3, h4⟩ := h 0 s a rfl h0
      obtain ⟨z1, z2⟩ := ih (n + 1) (step s a) (fun i s b hb hi => by
        have := h (i + 1) s b (by simpa using hb) (by rwa [show n + (i + 1) = n + 1 + i by omega])
        rwa [show n + (i + 1) + 1 = n + 1 + i + 1 by omega] at this) h1
      exact ⟨by rw [List.length_cons, show n + (l.length + 1) = n + 1 + l.length by omega]; exact z1, .nx h2 h3 h4 z2⟩
  obtain ⟨z1, z2⟩ := key l 0 s (fun i s a ha hi => by rw [Nat.zero_add] at hi ⊢; exact h i s a ha hi) h0
  rw [Nat.zero_add] at z1
  exact xss_for hi hg (.inl ⟨_, z2, hr z1⟩) hs
/-- a loop that only passes -/
theorem xss_pass {α : Type} {f : α → D} {l : List α} (hi : XI Γ tg iter env (l.map f)) (hg : XG Γ tg ix put) (h : ∀ a ∈ l, ∃ e1 e2, put env (f a) e1 ∧ XSs Γ body e1 (.nx e2) ∧ Wk e2 env)
    (hr : XSs Γ rest env out) (hs : ∀ (ev : Env) x, foldedSetIterable iter ev x = pure x := by intro _ _; rfl) : XSs Γ (.For tg iter body [] pos :: rest) env out :=
  xss_fold (S := Unit) (E := fun _ => env) (step := fun _ _ => ()) (s := ()) hi hg (fun _ a ha => h a ha) hr hs
/-- a loop of which only an invariant is told -/
theorem loop_ex {S α : Type} {f : α → D} {E : S → List Sl} (Iv : Nat → S → Prop) : ∀ {l : List α} (n : Nat) (s : S), (∀ i s a, l[i]? = some a → Iv (n + i) s → ∃ s' e1 e2, Iv (n + i + 1) s' ∧ put (E s) (f a) e1 ∧ XSs Γ body e1 (.nx e2) ∧ Wk e2 (E s')) → Iv n s →
    ∃ s', Iv (n + l.length) s' ∧ Loop Γ put body (E s) (l.map f) (.nx (E s'))
  | [], n, s, _, h => ⟨s, h, .nil⟩
  | a :: l, n, s, hstep, h => by
    obtain ⟨s1, e1, e2, h1, h2, h3, h4⟩ := hstep 0 s a rfl h
    obtain ⟨s2, h5, h6⟩ := loop_ex (E := E) (f := f) (l := l) Iv (n + 1) s1 (fun i s b hb hi => by
      have := hstep (i + 1) s b (by simpa using hb) (by rwa [show n + (i + 1) = n + 1 + i by omega])
      rwa [show n + (i + 1) + 1 = n + 1 + i + 1 by omega] at this) (by simpa using h1)
    exact ⟨s2, by rw [List.length_cons, show n + (l.length + 1) = n + 1 + l.length by omega]; exact h5, .nx h2 h3 h4 h6⟩
theorem lc_ {scope : Scope} {own : List (Str × Nat)} {ifs : List Expr} {ix : List Nat} {env : List Sl} (ok : BlkOk Γ.N Γ.sc scope own := by (dsimp only [Wd.ga, Ga.blk]; exact ⟨rfl, by decide +kernel, by decide +kernel, by decide +kernel, by decide +kernel⟩)) (nd : Γ.N.Nodup := by (dsimp only [Wd.ga, Ga.blk]; decide +kernel)) (h1 : ∀ j ∈ ix, j ∈ own.map (·.2) := by decide) (pl : plainAt env (own.map (·.2)) = true := by rfl) (sh : ∀ j ∈ own.map (·.2), j < env.length := by (simp only [List.length_cons, List.length_nil, List.length_set]; decide)) (one : ifs.length ≤ 1 := by decide) : Lc Γ scope own ix env ifs := ⟨ok, nd, h1, pl, sh, one⟩
/-! ### what is walked, by its value -/
inductive XiD : D → List D → Prop
  | l (xs : List D) : XiD (.l xs) xs
  | t (xs : List D) : XiD (.t xs) xs
  | q (ns : List Int) : XiD (.q ns) (ns.map .i)
  | s (x : List Nat) : XiD (.s x) (x.map fun c => .s [c])
theorem xi_any (ha : XE Γ iter env d) (h : XiD d ds) : XI Γ tg iter env ds := by
  cases h with
  | l xs => exact xi_list ha
  | t xs => exact xi_tup ha
  | q ns => exact xi_q ha
  | s x => exact xi_str ha
theorem zipD_map {α β : Type} (f : α → D) (g : β → D) : ∀ (l : List α) (m : List β), zipD (l.map f) (m.map g) = (l.zip m).map fun q => .t [f q.1, g q.2]
  | [], _ => by simp [zipD]
  | _ :: _, [] => by simp [zipD]
  | a :: l, b :: m => by
    have := zipD_map f g l m
    unfold zipD at this ⊢
    rw [List.map_cons, List.map_cons, List.zip_cons_cons, List.zip_cons_cons, List.map_cons, List.map_cons, this]
inductive ZpD : D → D → List D → Prop
  | s (x y : List Nat) : ZpD (.s x) (.s y) ((x.zip y).map fun q => .t [.s [q.1], .s [q.2]])
  | t {α β : Type} (f : α → D) (g : β → D) (x : List α) (y : List β) : ZpD (.t (x.map f)) (.t (y.map g)) ((x.zip y).map fun q => .t [f q.1, g q.2])
theorem xi_zip {zp tpos : Pos} {elts : List Expr} {kk : Nat} (hm : Γ.mg "zip" = none) (ha : XE Γ a env d1) (hb : XE Γ b env d2) (h : ZpD d1 d2 ds) (hg : Gl' Γ "zip" := by rfl)
    (hs : ∀ ev : Env, starEach [a, b] ev = (false, eval a ev) :: starEach [b] ev := by intro _; rfl) (hs2 : ∀ ev : Env, starEach [b] ev = (false, eval b ev) :: starEach [] ev := by intro _; rfl) (hpl : ∀ ev : Env, (backTo pos (starEach [b] ev)).any (·.1) = false := by intro _; rfl) :
    XI Γ (.Tuple elts kk tpos) (.Call (.Name "zip" zp) [a, b] [] pos) env ds := by
  cases h with
  | s x y =>
    have := xi_zipS (pos := pos) (elts := elts) (kk := kk) (tpos := tpos) (zp := zp) hm ha hb hg hs hs2 hpl
    rwa [zipD_map (fun c => .s [c]) (fun c => .s [c]) x y] at this
  | t f g x y =>
    have := xi_zipT (pos := pos) (elts := elts) (kk := kk) (tpos := tpos) (zp := zp) hm ha hb hg hs hs2 hpl
    rwa [zipD_map f g x y] at this
theorem xi_enumM {α : Type} {f : α → D} {xs : List α} {zp tpos : Pos} {elts : List Expr} {kk : Nat} (hm : Γ.mg "enumerate" = none) (ha : XE Γ a env (.t (xs.map f))) (hg : Gl' Γ "enumerate" := by rfl)
    (hs : ∀ ev : Env, starEach [a] ev = [(false, eval a ev)] := by intro _; rfl) (hs2 : ∀ ev : Env, starEach [a] ev = (false, eval a ev) :: starEach [] ev := by intro _; rfl) :
    XI Γ (.Tuple elts kk tpos) (.Call (.Name "enumerate" zp) [a] [] pos) env (((List.range xs.length).zip xs).map fun q => .t [.i (q.1 : Int), f q.2]) := by
  have := xi_enumT (pos := pos) (elts := elts) (kk := kk) (tpos := tpos) (zp := zp) hm ha hg hs hs2
  unfold enumD at this
  rw [List.length_map] at this
  rwa [zipD_map (fun k : Nat => .i (k : Int)) f (List.range xs.length) xs] at this
end
end Q8
/-! What the head tells, def by def. -/
namespace Q8
open PySem L2 PyProof.Rows
def meth (i j : Nat) : Stmt := match top i with
  | .ClassDef (body := b) .. => b.getD j (.Pass ⟨0, 0, 0, 0⟩)
  | s => s
abbrev N_is_layer : List Str := ["value", "sign"]
abbrev N_cells_of : List Str := ["one", "cell"]
abbrev N_agree : List Str := ["one", "two", "first", "second"]
abbrev N_freed : List Str := ["one", "chosen", "cell"]
abbrev N_empty_layer : List Str := ["size"]
abbrev N_press : List Str := ["one", "two", "below", "above"]
abbrev N_frozen : List Str := ["value", "part"]
abbrev N_cell_set : List Str := ["chosen"]
abbrev N_Peeling___init__ : List Str := ["self", "seen", "order", "left"]
abbrev N_peeled : List Str := ["left", "stamp"]
abbrev N_frees_marks : List Str := ["stamp", "left"]
abbrev N_first_to_peel : List Str := ["layers", "left", "number", "stamp"]
abbrev N_peel_by : List Str := ["layers", "left", "order", "rest", "number"]
abbrev N_peeling : List Str := ["stock", "seen", "order", "left", "names", "number"]
abbrev N_covers_some : List Str := ["stamp", "cells", "cell"]
abbrev N_contradicts : List Str := ["stamp", "seen", "cells", "cell"]
abbrev N_fast_for : List Str := ["layers", "seen", "chosen", "cells", "cell", "stamp"]
abbrev N_is_fast : List Str := ["stock", "seen", "chosen"]
abbrev N_is_name : List Str := ["value", "sign"]
abbrev N_is_stamp : List Str := ["value", "size"]
abbrev N_Stock___init__ : List Str := ["self", "size", "stamps", "pairs", "numbers", "index", "pair"]
abbrev N_Stock_names : List Str := ["self", "pair"]
abbrev N_Stock___len__ : List Str := ["self"]
abbrev N_Stock___contains__ : List Str := ["self", "name"]
abbrev N_Stock_place : List Str := ["self", "name"]
abbrev N_Stock_stamp : List Str := ["self", "name", "number"]
abbrev N_known_names : List Str := ["stock", "names", "row", "name"]
abbrev N_StampMaking___init__ : List Str := ["self", "made", "row", "cells"]
abbrev N_covers_only : List Str := ["layer", "stamp", "sign", "bound"]
abbrev N_inner_stock : List Str := ["stock", "stamp", "pair"]
abbrev N_stamp_making : List Str := ["stock", "stamp", "found", "cells"]
abbrev N_is_stamp_refusal : List Str := ["stock", "stamp", "chosen"]
abbrev N_Comparison___init__ : List Str := ["self", "word", "rows", "other_rows", "missing", "other_missing", "sheet"]
abbrev N_strange_mark : List Str := ["layers", "cell", "signs", "free", "layer", "mark"]
abbrev N_strange_sheet : List Str := ["one", "two", "layers", "cell"]
abbrev N_rows_by : List Str := ["maker", "stock", "stamp"]
abbrev N_first_missing : List Str := ["stock", "rows", "name", "row"]
abbrev N_comparison_word : List Str := ["missing", "other_missing"]
abbrev N_compare_stocks : List Str := ["one", "two", "rows", "other_rows", "missing", "other_missing", "word", "sheet"]
abbrev N_row_layers : List Str := ["stock", "row", "name"]
abbrev N_press_all : List Str := ["layer", "layers", "now", "above"]
abbrev N_net_of : List Str := ["size", "layers"]
abbrev N_net_stamp : List Str := ["stock", "row"]
abbrev N_is_row_for : List Str := ["maker", "row", "stamp", "name"]
abbrev N_are_rows_for : List Str := ["maker", "rows", "stock", "row", "stamp"]
abbrev N_is_missing_right : List Str := ["maker", "rows", "stock", "missing", "cells"]
abbrev N_is_strange : List Str := ["one", "two", "sheet", "stamp", "sign", "mark"]
abbrev N_is_comparison : List Str := ["one", "two", "comparison", "word", "rows", "other_rows", "missing", "other_missing", "sheet", "cells", "other_cells"]
abbrev N__law_whole : List Str := ["_law_value"]
abbrev N__law_cell : List Str := ["_law_script", "_law_k", "_law_seed", "_law_cell_here"]
abbrev N__law_digits : List Str := ["_law_cell_here", "_law_sizes", "_law_found", "_law_rest", "_law_most", "_law_seed", "_law_k", "_law_twice"]
abbrev N__law_marks : List Str := ["_law_line", "_law_alls", "_law_first", "_law_second", "_law_third"]
abbrev N__law_stamp : List Str := ["_law_marks_here", "_law_line", "_law_size", "_law_text", "_law_at", "_law_k"]
abbrev N__law_named : List Str := ["_law_layers", "_law_digit", "_law_menu", "_law_found", "_law_k", "_law_called", "_law_place"]
abbrev N__law_base : List Str := ["_law_script", "_law_at", "_law_upto", "_law_head", "_law_size", "_law_many", "_law_marks_here", "_law_inks", "_law_layers", "_law_k"]
abbrev N__law_press : List Str := ["_law_under", "_law_over", "_law_k"]
abbrev N__law_agree : List Str := ["_law_former", "_law_latter", "_law_k"]
abbrev N__law_free : List Str := ["_law_layer", "_law_mould", "_law_k"]
abbrev N__law_layer_of : List Str := ["_law_stamps", "_law_called", "_law_pair"]
abbrev N__law_peel : List Str := ["_law_stamps", "_law_seen", "_law_order", "_law_left", "_law_turn", "_law_found", "_law_pair"]
abbrev N__law_nets : List Str := ["_law_script", "_law_at", "_law_layers", "_law_many", "_law_found", "_law_k", "_law_line", "_law_now", "_law_turn", "_law_pick"]
abbrev N__law_changed : List Str := ["_law_layer", "_law_marks_here", "_law_place", "_law_signs", "_law_sign", "_law_text"]
abbrev N__law_thin : List Str := ["_law_layer", "_law_at", "_law_many", "_law_cells", "_law_kept", "_law_cell_here", "_law_k"]
abbrev N__law_recoloured : List Str := ["_law_layer", "_law_old", "_law_new", "_law_sign"]
abbrev N__law_crowd : List Str := ["_law_script", "_law_at", "_law_many", "_law_size", "_law_marks_here", "_law_found", "_law_k", "_law_line", "_law_signs", "_law_turn", "_law_place"]
abbrev N__law_derived : List Str := ["_law_script", "_law_at", "_law_size", "_law_marks_here", "_law_base_here", "_law_head", "_law_first", "_law_second", "_law_gone", "_law_spot", "_law_turn", "_law_back", "_law_digit"]
abbrev N__law_two : List Str := ["_law_script", "_law_at", "_law_upto", "_law_world", "_law_head", "_law_marks_here", "_law_base_here", "_law_layer", "_law_k"]
abbrev N__law_two_or_crowd : List Str := ["_law_script", "_law_at", "_law_upto", "_law_head", "_law_size", "_law_marks_here", "_law_base_here", "_law_world", "_law_now", "_law_layer", "_law_k"]
abbrev N__law_wider : List Str := ["_law_layer", "_law_way", "_law_gaps", "_law_most", "_law_text", "_law_k"]
abbrev N__law_widened : List Str := ["_law_script", "_law_at", "_law_most", "_law_size", "_law_layers", "_law_head", "_law_found", "_law_layer"]
abbrev N__law_widened_two : List Str := ["_law_script", "_law_at", "_law_most", "_law_size", "_law_ones", "_law_twos", "_law_wide", "_law_first", "_law_second", "_law_pair", "_law_k"]
abbrev N__law_sheet : List Str := ["_law_marks_here", "_law_line", "_law_size", "_law_k"]
abbrev N__law_inner : List Str := ["_law_stamps", "_law_layer", "_law_found", "_law_pair"]
abbrev N__law_made : List Str := ["_law_stamps", "_law_layer", "_law_back", "_law_cells", "_law_k"]
abbrev N__law_net : List Str := ["_law_size", "_law_stamps", "_law_names", "_law_now", "_law_called"]
abbrev N__law_row_told : List Str := ["_law_told", "_law_due", "_law_k"]
abbrev N__law_rows_told : List Str := ["_law_told", "_law_rows", "_law_k"]
abbrev N__law_cells_told : List Str := ["_law_told", "_law_cells", "_law_k"]
abbrev N__law_text_told : List Str := ["_law_told", "_law_text"]
abbrev N__law_stock_told : List Str := ["_law_told", "_law_size", "_law_stamps", "_law_k"]
abbrev N__law_copy : List Str := ["_law_stamps", "_law_pair"]
abbrev N__law_tuples : List Str := ["_law_stamps", "_law_pair"]
abbrev N__law_strange : List Str := ["_law_size", "_law_layers", "_law_text", "_law_cell_here", "_law_signs", "_law_free_here", "_law_layer", "_law_sign"]
abbrev N__law_compared : List Str := ["_law_size", "_law_ones", "_law_twos", "_law_rows", "_law_back", "_law_lost", "_law_gone", "_law_word_here", "_law_sheet_here", "_law_pair", "_law_k"]
abbrev N__law_resized : List Str := ["_law_size", "_law_stamps", "_law_pair"]
abbrev N__law_shown : List Str := ["_law_stamps", "_law_others", "_law_missing", "_law_sheet_here", "_law_made_here"]
abbrev N__law_right : List Str := ["_law_told", "_law_size", "_law_ones", "_law_twos", "_law_due", "_law_k"]
abbrev N__law_reached : List Str := ["_law_stamps", "_law_sheet_here", "_law_known", "_law_level", "_law_turn", "_law_grown", "_law_layer", "_law_pair", "_law_after"]
abbrev N__law_word : List Str := ["_law_first", "_law_second", "_law_lost", "_law_gone", "_law_sheet_here"]
abbrev N__law_side_right : List Str := ["_law_rows", "_law_missing", "_law_stamps", "_law_strange_here", "_law_reached_here", "_law_lost", "_law_k", "_law_there"]
abbrev N__law_forwards : List Str := ["_law_told", "_law_size", "_law_ones", "_law_twos", "_law_sheet_here", "_law_strange_here", "_law_first", "_law_second", "_law_seen", "_law_pair"]
abbrev N__law_judged : List Str := ["_law_former", "_law_latter", "_law_told", "_law_number", "_law_cells", "_law_rest", "_law_other", "_law_word_here"]
abbrev N__law_crowds : List Str := ["_law_script", "_law_head", "_law_line", "_law_alls", "_law_rest", "_law_found", "_law_k"]
abbrev N__law_crowds_right : List Str := ["_law_script", "_law_crowds_here", "_law_former", "_law_latter", "_law_due", "_law_alone", "_law_pair"]
abbrev N__law_refused : List Str := ["_law_former", "_law_latter", "_law_first", "_law_second", "_law_sizes", "e"]
abbrev N_law : List Str := ["_law_script", "_law_world", "_law_wide", "_law_size", "_law_ones", "_law_twos", "_law_given", "_law_former", "_law_latter", "_law_told", "_law_sheet_here", "_law_sized", "_law_other", "_law_strange_here", "_law_pair"]
structure Wo (W : Wd) : Prop where
  kn_is_layer : Kn W "is_layer" (2 + 1) (RB W N_is_layer (defScope (top 12)) 2 (defBody (top 12)) 1)
  kn_cells_of : Kn W "cells_of" (2 + 1) (RB W N_cells_of (defScope (top 13)) 2 (defBody (top 13)) 1)
  kn_agree : Kn W "agree" (0 + 1) (RB W N_agree (defScope (top 14)) 0 (defBody (top 14)) 2)
  kn_freed : Kn W "freed" (2 + 1) (RB W N_freed (defScope (top 15)) 2 (defBody (top 15)) 2)
  kn_empty_layer : Kn W "empty_layer" (0 + 1) (RB W N_empty_layer (defScope (top 16)) 0 (defBody (top 16)) 1)
  kn_press : Kn W "press" (0 + 1) (RB W N_press (defScope (top 17)) 0 (defBody (top 17)) 2)
  kn_frozen : ∀ k, Kn W "frozen" (k + 1) (RB W N_frozen (defScope (top 18)) k (defBody (top 18)) 1)
  kn_cell_set : Kn W "cell_set" (0 + 1) (RB W N_cell_set (defScope (top 19)) 0 (defBody (top 19)) 1)
  kn_peeled : Kn W "peeled" (3 + 1) (RB W N_peeled (defScope (top 22)) 3 (defBody (top 22)) 2)
  kn_frees_marks : Kn W "frees_marks" (4 + 1) (RB W N_frees_marks (defScope (top 23)) 4 (defBody (top 23)) 2)
  kn_first_to_peel : Kn W "first_to_peel" (5 + 1) (RB W N_first_to_peel (defScope (top 24)) 5 (defBody (top 24)) 2)
  kn_peel_by : Kn W "peel_by" (6 + 1) (RB W N_peel_by (defScope (top 25)) 6 (defBody (top 25)) 2)
  kn_peeling : Kn W "peeling" (7 + 1) (RB W N_peeling (defScope (top 26)) 7 (defBody (top 26)) 2)
  kn_covers_some : Kn W "covers_some" (0 + 1) (RB W N_covers_some (defScope (top 28)) 0 (defBody (top 28)) 2)
  kn_contradicts : Kn W "contradicts" (0 + 1) (RB W N_contradicts (defScope (top 29)) 0 (defBody (top 29)) 3)
  kn_fast_for : Kn W "fast_for" (1 + 1) (RB W N_fast_for (defScope (top 30)) 1 (defBody (top 30)) 3)
  kn_is_fast : Kn W "is_fast" (2 + 1) (RB W N_is_fast (defScope (top 31)) 2 (defBody (top 31)) 3)
  kn_is_name : Kn W "is_name" (2 + 1) (RB W N_is_name (defScope (top 36)) 2 (defBody (top 36)) 1)
  kn_is_stamp : Kn W "is_stamp" (3 + 1) (RB W N_is_stamp (defScope (top 37)) 3 (defBody (top 37)) 2)
  kn_known_names : Kn W "known_names" (4 + 1) (RB W N_known_names (defScope (top 39)) 4 (defBody (top 39)) 2)
  kn_covers_only : Kn W "covers_only" (0 + 1) (RB W N_covers_only (defScope (top 42)) 0 (defBody (top 42)) 2)
  kn_inner_stock : Kn W "inner_stock" (6 + 1) (RB W N_inner_stock (defScope (top 43)) 6 (defBody (top 43)) 2)
  kn_stamp_making : Kn W "stamp_making" (8 + 1) (RB W N_stamp_making (defScope (top 44)) 8 (defBody (top 44)) 2)
  kn_is_stamp_refusal : Kn W "is_stamp_refusal" (7 + 1) (RB W N_is_stamp_refusal (defScope (top 45)) 7 (defBody (top 45)) 3)
  kn_strange_mark : Kn W "strange_mark" (2 + 1) (RB W N_strange_mark (defScope (top 48)) 2 (defBody (top 48)) 2)
  kn_strange_sheet : Kn W "strange_sheet" (3 + 1) (RB W N_strange_sheet (defScope (top 49)) 3 (defBody (top 49)) 2)
  kn_rows_by : Kn W "rows_by" (9 + 1) (RB W N_rows_by (defScope (top 50)) 9 (defBody (top 50)) 2)
  kn_first_missing : Kn W "first_missing" (2 + 1) (RB W N_first_missing (defScope (top 51)) 2 (defBody (top 51)) 2)
  kn_comparison_word : Kn W "comparison_word" (0 + 1) (RB W N_comparison_word (defScope (top 52)) 0 (defBody (top 52)) 2)
  kn_compare_stocks : Kn W "compare_stocks" (10 + 1) (RB W N_compare_stocks (defScope (top 53)) 10 (defBody (top 53)) 2)
  kn_row_layers : Kn W "row_layers" (5 + 1) (RB W N_row_layers (defScope (top 55)) 5 (defBody (top 55)) 2)
  kn_press_all : Kn W "press_all" (1 + 1) (RB W N_press_all (defScope (top 56)) 1 (defBody (top 56)) 2)
  kn_net_of : Kn W "net_of" (2 + 1) (RB W N_net_of (defScope (top 57)) 2 (defBody (top 57)) 2)
  kn_net_stamp : Kn W "net_stamp" (6 + 1) (RB W N_net_stamp (defScope (top 58)) 6 (defBody (top 58)) 2)
  kn_is_row_for : Kn W "is_row_for" (7 + 1) (RB W N_is_row_for (defScope (top 61)) 7 (defBody (top 61)) 3)
  kn_are_rows_for : Kn W "are_rows_for" (8 + 1) (RB W N_are_rows_for (defScope (top 62)) 8 (defBody (top 62)) 3)
  kn_is_missing_right : Kn W "is_missing_right" (8 + 1) (RB W N_is_missing_right (defScope (top 63)) 8 (defBody (top 63)) 5)
  kn_is_strange : Kn W "is_strange" (0 + 1) (RB W N_is_strange (defScope (top 64)) 0 (defBody (top 64)) 3)
  kn_is_comparison : Kn W "is_comparison" (9 + 1) (RB W N_is_comparison (defScope (top 65)) 9 (defBody (top 65)) 3)
  kn__law_whole : Kn W "_law_whole" (0 + 1) (RB W N__law_whole (defScope (top 67)) 0 (defBody (top 67)) 1)
  kn__law_cell : Kn W "_law_cell" (2 + 1) (RB W N__law_cell (defScope (top 68)) 2 (defBody (top 68)) 2)
  kn__law_digits : Kn W "_law_digits" (2 + 1) (RB W N__law_digits (defScope (top 69)) 2 (defBody (top 69)) 2)
  kn__law_marks : Kn W "_law_marks" (0 + 1) (RB W N__law_marks (defScope (top 70)) 0 (defBody (top 70)) 1)
  kn__law_stamp : Kn W "_law_stamp" (0 + 1) (RB W N__law_stamp (defScope (top 71)) 0 (defBody (top 71)) 3)
  kn__law_named : Kn W "_law_named" (2 + 1) (RB W N__law_named (defScope (top 72)) 2 (defBody (top 72)) 2)
  kn__law_base : Kn W "_law_base" (3 + 1) (RB W N__law_base (defScope (top 73)) 3 (defBody (top 73)) 3)
  kn__law_press : Kn W "_law_press" (2 + 1) (RB W N__law_press (defScope (top 74)) 2 (defBody (top 74)) 2)
  kn__law_agree : Kn W "_law_agree" (2 + 1) (RB W N__law_agree (defScope (top 75)) 2 (defBody (top 75)) 2)
  kn__law_free : Kn W "_law_free" (2 + 1) (RB W N__law_free (defScope (top 76)) 2 (defBody (top 76)) 2)
  kn__law_layer_of : Kn W "_law_layer_of" (0 + 1) (RB W N__law_layer_of (defScope (top 77)) 0 (defBody (top 77)) 2)
  kn__law_peel : Kn W "_law_peel" (3 + 1) (RB W N__law_peel (defScope (top 78)) 3 (defBody (top 78)) 2)
  kn__law_nets : Kn W "_law_nets" (3 + 1) (RB W N__law_nets (defScope (top 79)) 3 (defBody (top 79)) 4)
  kn__law_changed : Kn W "_law_changed" (2 + 1) (RB W N__law_changed (defScope (top 80)) 2 (defBody (top 80)) 3)
  kn__law_thin : Kn W "_law_thin" (2 + 1) (RB W N__law_thin (defScope (top 81)) 2 (defBody (top 81)) 3)
  kn__law_recoloured : Kn W "_law_recoloured" (0 + 1) (RB W N__law_recoloured (defScope (top 82)) 0 (defBody (top 82)) 3)
  kn__law_crowd : Kn W "_law_crowd" (3 + 1) (RB W N__law_crowd (defScope (top 83)) 3 (defBody (top 83)) 5)
  kn__law_derived : Kn W "_law_derived" (4 + 1) (RB W N__law_derived (defScope (top 84)) 4 (defBody (top 84)) 6)
  kn__law_two : Kn W "_law_two" (5 + 1) (RB W N__law_two (defScope (top 85)) 5 (defBody (top 85)) 3)
  kn__law_two_or_crowd : Kn W "_law_two_or_crowd" (6 + 1) (RB W N__law_two_or_crowd (defScope (top 86)) 6 (defBody (top 86)) 3)
  kn__law_wider : Kn W "_law_wider" (2 + 1) (RB W N__law_wider (defScope (top 87)) 2 (defBody (top 87)) 4)
  kn__law_widened : Kn W "_law_widened" (3 + 1) (RB W N__law_widened (defScope (top 88)) 3 (defBody (top 88)) 5)
  kn__law_widened_two : Kn W "_law_widened_two" (4 + 1) (RB W N__law_widened_two (defScope (top 89)) 4 (defBody (top 89)) 6)
  kn__law_sheet : Kn W "_law_sheet" (0 + 1) (RB W N__law_sheet (defScope (top 90)) 0 (defBody (top 90)) 3)
  kn__law_inner : Kn W "_law_inner" (3 + 1) (RB W N__law_inner (defScope (top 91)) 3 (defBody (top 91)) 2)
  kn__law_made : Kn W "_law_made" (4 + 1) (RB W N__law_made (defScope (top 92)) 4 (defBody (top 92)) 2)
  kn__law_net : Kn W "_law_net" (3 + 1) (RB W N__law_net (defScope (top 93)) 3 (defBody (top 93)) 3)
  kn__law_row_told : Kn W "_law_row_told" (2 + 1) (RB W N__law_row_told (defScope (top 94)) 2 (defBody (top 94)) 2)
  kn__law_rows_told : Kn W "_law_rows_told" (3 + 1) (RB W N__law_rows_told (defScope (top 95)) 3 (defBody (top 95)) 2)
  kn__law_cells_told : Kn W "_law_cells_told" (2 + 1) (RB W N__law_cells_told (defScope (top 96)) 2 (defBody (top 96)) 2)
  kn__law_text_told : Kn W "_law_text_told" (0 + 1) (RB W N__law_text_told (defScope (top 97)) 0 (defBody (top 97)) 2)
  kn__law_stock_told : Kn W "_law_stock_told" (3 + 1) (RB W N__law_stock_told (defScope (top 98)) 3 (defBody (top 98)) 3)
  kn__law_copy : Kn W "_law_copy" (0 + 1) (RB W N__law_copy (defScope (top 99)) 0 (defBody (top 99)) 1)
  kn__law_tuples : Kn W "_law_tuples" (0 + 1) (RB W N__law_tuples (defScope (top 100)) 0 (defBody (top 100)) 1)
  kn__law_strange : Kn W "_law_strange" (2 + 1) (RB W N__law_strange (defScope (top 101)) 2 (defBody (top 101)) 2)
  kn__law_compared : Kn W "_law_compared" (5 + 1) (RB W N__law_compared (defScope (top 102)) 5 (defBody (top 102)) 3)
  kn__law_resized : Kn W "_law_resized" (0 + 1) (RB W N__law_resized (defScope (top 103)) 0 (defBody (top 103)) 2)
  kn__law_shown : Kn W "_law_shown" (4 + 1) (RB W N__law_shown (defScope (top 104)) 4 (defBody (top 104)) 4)
  kn__law_right : Kn W "_law_right" (6 + 1) (RB W N__law_right (defScope (top 105)) 6 (defBody (top 105)) 4)
  kn__law_reached : Kn W "_law_reached" (3 + 1) (RB W N__law_reached (defScope (top 106)) 3 (defBody (top 106)) 2)
  kn__law_word : Kn W "_law_word" (2 + 1) (RB W N__law_word (defScope (top 107)) 2 (defBody (top 107)) 2)
  kn__law_side_right : Kn W "_law_side_right" (3 + 1) (RB W N__law_side_right (defScope (top 108)) 3 (defBody (top 108)) 5)
  kn__law_forwards : Kn W "_law_forwards" (4 + 1) (RB W N__law_forwards (defScope (top 109)) 4 (defBody (top 109)) 5)
  kn__law_judged : Kn W "_law_judged" (10 + 1) (RB W N__law_judged (defScope (top 110)) 10 (defBody (top 110)) 4)
  kn__law_crowds : Kn W "_law_crowds" (3 + 1) (RB W N__law_crowds (defScope (top 111)) 3 (defBody (top 111)) 1)
  kn__law_crowds_right : Kn W "_law_crowds_right" (6 + 1) (RB W N__law_crowds_right (defScope (top 112)) 6 (defBody (top 112)) 1)
  kk_compare_stocks : KnK W "compare_stocks" (10 + 1) ["two", "one"] (RB W N_compare_stocks (defScope (top 53)) 10 (defBody (top 53)) 2)
  kk_strange_sheet : KnK W "strange_sheet" (3 + 1) ["two", "one"] (RB W N_strange_sheet (defScope (top 49)) 3 (defBody (top 49)) 2)
  ki_Peeling : KnI W "Peeling" 0 (0 + 1) (RI W N_Peeling___init__ (defScope (meth 21 0)) 0 (defBody (meth 21 0)) 4 0)
  ki_Stock : KnI W "Stock" 1 (4 + 1) (RI W N_Stock___init__ (defScope (meth 38 0)) 4 (defBody (meth 38 0)) 3 1)
  ki_StampMaking : KnI W "StampMaking" 2 (0 + 1) (RI W N_StampMaking___init__ (defScope (meth 41 0)) 0 (defBody (meth 41 0)) 4 2)
  ki_Comparison : KnI W "Comparison" 3 (0 + 1) (RI W N_Comparison___init__ (defScope (meth 47 0)) 0 (defBody (meth 47 0)) 7 3)
  kp_names : KnP W 1 "names" (0 + 1) (RB W N_Stock_names (defScope (meth 38 1)) 0 (defBody (meth 38 1)) 1)
  km___len__ : KnM W 1 "__len__" (2 + 1) (RB W N_Stock___len__ (defScope (meth 38 2)) 2 (defBody (meth 38 2)) 1)
  km___contains__ : KnM W 1 "__contains__" (2 + 1) (RB W N_Stock___contains__ (defScope (meth 38 3)) 2 (defBody (meth 38 3)) 2)
  km_place : KnM W 1 "place" (0 + 1) (RB W N_Stock_place (defScope (meth 38 7)) 0 (defBody (meth 38 7)) 2)
  km_stamp : KnM W 1 "stamp" (2 + 1) (RB W N_Stock_stamp (defScope (meth 38 8)) 2 (defBody (meth 38 8)) 2)
  cf0 : CFa W.K (W.cl 0) 0
  cf1 : CFa W.K (W.cl 1) 1
  cf2 : CFa W.K (W.cl 2) 2
  cf3 : CFa W.K (W.cl 3) 3
  ci1 : CIs W.K (W.cl 1)
  ci3 : CIs W.K (W.cl 3)
  n_len : W.mg "len" = none
  n_int : W.mg "int" = none
  n_str : W.mg "str" = none
  n_bool : W.mg "bool" = none
  n_range : W.mg "range" = none
  n_zip : W.mg "zip" = none
  n_enumerate : W.mg "enumerate" = none
  n_isinstance : W.mg "isinstance" = none
  n_min : W.mg "min" = none
  n_max : W.mg "max" = none
  n_sum : W.mg "sum" = none
  n_tuple : W.mg "tuple" = none
  n_list : W.mg "list" = none
  n_sorted : W.mg "sorted" = none
  n_set : W.mg "set" = none
  g_MARKS : ∃ t, W.mg "MARKS" = some (.str ".abcdefghijklmnopqrstuvwxyz" t)
  g_SIGNS : ∃ t, W.mg "SIGNS" = some (.str "-.abcdefghijklmnopqrstuvwxyz" t)
  g_LETTERS : ∃ t, W.mg "LETTERS" = some (.str "abcdefghijklmnopqrstuvwxyz" t)
  g_DIGITS : ∃ t, W.mg "DIGITS" = some (.str "0123456789" t)
  g_MOST_CELLS : ∃ t, W.mg "MOST_CELLS" = some (.int 30 t)
  g_LONGEST_NAME : ∃ t, W.mg "LONGEST_NAME" = some (.int 8 t)
  g_WORDS : ∃ p, W.mg "WORDS" = some (.ref p) ∧ ∀ H, SqT W.K H p [.str "alike", .str "inside", .str "around", .str "apart"]
  g_Stock : W.mg "Stock" = some (.ref (W.cl 1))
  g_Comparison : W.mg "Comparison" = some (.ref (W.cl 3))
section
variable {W : Wd} {Γ : Ga} {env : List Sl} {pos : Pos}
def marksT : List Nat := [46, 97, 98, 99, 100, 101, 102, 103, 104, 105, 106, 107, 108, 109, 110, 111, 112, 113, 114, 115, 116, 117, 118, 119, 120, 121, 122]
def lettersT : List Nat := marksT.drop 1
def digitsT : List Nat := [48, 49, 50, 51, 52, 53, 54, 55, 56, 57]
theorem Wo.x_MARKS (F : Wo W) (hg : Gl' Γ "MARKS") (hw : Γ.mg = W.mg := by rfl) : XE Γ (.Name "MARKS" pos) env (.s marksT) := by
  obtain ⟨t, h⟩ := F.g_MARKS
  exact xe_glob (v := .str _) (by rw [hw]; exact h) ⟨t, rfl⟩ (fun H => by simp only [Den]; decide +kernel) hg
theorem Wo.x_SIGNS (F : Wo W) (hg : Gl' Γ "SIGNS") (hw : Γ.mg = W.mg := by rfl) : XE Γ (.Name "SIGNS" pos) env (.s (45 :: marksT)) := by
  obtain ⟨t, h⟩ := F.g_SIGNS
  exact xe_glob (v := .str _) (by rw [hw]; exact h) ⟨t, rfl⟩ (fun H => by simp only [Den]; decide +kernel) hg
theorem Wo.x_LETTERS (F : Wo W) (hg : Gl' Γ "LETTERS") (hw : Γ.mg = W.mg := by rfl) : XE Γ (.Name "LETTERS" pos) env (.s lettersT) := by
  obtain ⟨t, h⟩ := F.g_LETTERS
  exact xe_glob (v := .str _) (by rw [hw]; exact h) ⟨t, rfl⟩ (fun H => by simp only [Den]; decide +kernel) hg
theorem Wo.x_DIGITS (F : Wo W) (hg : Gl' Γ "DIGITS") (hw : Γ.mg = W.mg := by rfl) : XE Γ (.Name "DIGITS" pos) env (.s digitsT) := by
  obtain ⟨t, h⟩ := F.g_DIGITS
  exact xe_glob (v := .str _) (by rw [hw]; exact h) ⟨t, rfl⟩ (fun H => by simp only [Den]; decide +kernel) hg
theorem Wo.x_MOST_CELLS (F : Wo W) (hg : Gl' Γ "MOST_CELLS") (hw : Γ.mg = W.mg := by rfl) : XE Γ (.Name "MOST_CELLS" pos) env (.i 30) := by
  obtain ⟨t, h⟩ := F.g_MOST_CELLS
  exact xe_glob (v := .int 30) (by rw [hw]; exact h) ⟨t, rfl⟩ (fun H => by simp only [Den]) hg
theorem Wo.x_LONGEST_NAME (F : Wo W) (hg : Gl' Γ "LONGEST_NAME") (hw : Γ.mg = W.mg := by rfl) : XE Γ (.Name "LONGEST_NAME" pos) env (.i 8) := by
  obtain ⟨t, h⟩ := F.g_LONGEST_NAME
  exact xe_glob (v := .int 8) (by rw [hw]; exact h) ⟨t, rfl⟩ (fun H => by simp only [Den]) hg
def wordsT : List (List Nat) := [[97, 108, 105, 107, 101], [105, 110, 115, 105, 100, 101], [97, 114, 111, 117, 110, 100], [97, 112, 97, 114, 116]]
theorem Wo.x_WORDS (F : Wo W) (hg : Gl' Γ "WORDS") (hw : Γ.mg = W.mg := by rfl) (hK : Γ.K = W.K := by rfl) : XE Γ (.Name "WORDS" pos) env (.t (wordsT.map .s)) := by
  obtain ⟨p, h, h2⟩ := F.g_WORDS
  refine xe_glob (v := .ref p) (by rw [hw]; exact h) rfl (fun H => ?_) hg
  simp only [Den]
  have h3 := h2 H
  rw [← hK] at h3
  exact ⟨p, _, rfl, h3, denL_s.mpr (by decide +kernel)⟩
theorem Wo.x_Stock (F : Wo W) (hg : Gl' Γ "Stock") (hw : Γ.mg = W.mg := by rfl) : XE Γ (.Name "Stock" pos) env (.r (W.cl 1)) := xe_glob (v := .ref _) (by rw [hw]; exact F.g_Stock) rfl (fun H => by simp only [Den]) hg
theorem Wo.x_Comparison (F : Wo W) (hg : Gl' Γ "Comparison") (hw : Γ.mg = W.mg := by rfl) : XE Γ (.Name "Comparison" pos) env (.r (W.cl 3)) := xe_glob (v := .ref _) (by rw [hw]; exact F.g_Comparison) rfl (fun H => by simp only [Den]) hg
end
end Q8
/-! Layers: what the program reckons with. -/
namespace Q8
abbrev Tx := List Nat
/-- the k-th sign -/
abbrev at_ (x : Tx) (k : Nat) : Nat := x.getD k 0
def blank (n : Nat) : Tx := List.replicate n 45
def tab (n : Nat) (f : Nat → Nat) : Tx := (List.range n).map f
theorem tab_len (n : Nat) (f : Nat → Nat) : (tab n f).length = n := by simp [tab]
theorem at_tab {n : Nat} {f : Nat → Nat} {k : Nat} (h : k < n) : at_ (tab n f) k = f k := by
  simp [at_, tab, List.getD_eq_getElem?_getD, List.getElem?_range h]
theorem tab_at (x : Tx) : tab x.length (at_ x) = x := by
  apply List.ext_getElem?
  intro i
  unfold tab
  rw [List.getElem?_map]
  by_cases h : i < x.length
  · rw [List.getElem?_range h, List.getElem?_eq_getElem h]
    simp [at_, List.getD_eq_getElem?_getD, h]
  · rw [List.getElem?_eq_none (by simpa using h), List.getElem?_eq_none (by simpa using h)]
    rfl
theorem tx_ext {x y : Tx} (hl : x.length = y.length) (h : ∀ k, k < x.length → at_ x k = at_ y k) : x = y := by
  rw [← tab_at x, ← tab_at y, ← hl]
  unfold tab
  exact List.map_congr_left fun k hk => h k (List.mem_range.mp hk)
theorem tab_congr {n : Nat} {f g : Nat → Nat} (h : ∀ k, k < n → f k = g k) : tab n f = tab n g := List.map_congr_left fun k hk => h k (List.mem_range.mp hk)
theorem blank_len (n : Nat) : (blank n).length = n := by simp [blank]
theorem at_blank {n k : Nat} (h : k < n) : at_ (blank n) k = 45 := by simp [at_, blank, List.getD_eq_getElem?_getD, h]
/-- o pressed on u -/
def pressF (u o : Tx) : Tx := tab u.length fun k => if at_ o k = 45 then at_ u k else at_ o k
/-- the marks of m lifted off x -/
def freedF (x m : Tx) : Tx := tab x.length fun k => if at_ m k = 45 then at_ x k else 45
def agreeF (x y : Tx) : Bool := (List.range x.length).all fun k => !(decide (at_ x k ≠ 45) && (decide (at_ y k ≠ 45) && decide (at_ x k ≠ at_ y k)))
def cellsF (x : Tx) : List Nat := (List.range x.length).filter fun k => decide (at_ x k ≠ 45)
def insideF (x y : Tx) : Bool := (List.range x.length).all fun k => !(decide (at_ x k ≠ 45) && decide (at_ y k = 45))
theorem pressF_len (u o : Tx) : (pressF u o).length = u.length := tab_len _ _
theorem freedF_len (u o : Tx) : (freedF u o).length = u.length := tab_len _ _
theorem at_press {u o : Tx} {k : Nat} (h : k < u.length) : at_ (pressF u o) k = if at_ o k = 45 then at_ u k else at_ o k := at_tab h
theorem at_freed {u o : Tx} {k : Nat} (h : k < u.length) : at_ (freedF u o) k = if at_ o k = 45 then at_ u k else 45 := at_tab h
/-- two texts of one length, sign by sign -/
theorem zip_tab {x y : Tx} (h : x.length = y.length) : x.zip y = (List.range x.length).map fun k => (at_ x k, at_ y k) := by
  apply List.ext_getElem?
  intro i
  rw [List.getElem?_map]
  by_cases c : i < x.length
  · rw [List.getElem?_range c, List.getElem?_zip_eq_some (z := (x[i], y[i])) |>.mpr ⟨List.getElem?_eq_getElem c, List.getElem?_eq_getElem (h ▸ c)⟩]
    simp [at_, List.getD_eq_getElem?_getD, c, h ▸ c]
  · rw [List.getElem?_eq_none (by simp; omega), List.getElem?_eq_none (by simpa using c)]
    rfl
theorem flat_ones (l : List Nat) : (l.map fun c => [c]).flatten = l := by
  induction l with
  | nil => rfl
  | cons a l ih => rw [List.map_cons, List.flatten_cons, ih]; rfl
theorem flat_tab {α : Type} (l : List α) (f : α → Nat) : (l.map fun k => [f k]).flatten = l.map f := by
  rw [← flat_ones (l.map f), List.map_map]; rfl
theorem flat_len1 {α : Type} (l : List α) (f : α → Nat) : (l.map fun k => [f k]).flatten.length = l.length := by rw [flat_tab]; simp
theorem flat_tabE {α : Type} (l : List α) (g : α → List Nat) (f : α → Nat) (h : ∀ k ∈ l, g k = [f k]) : (l.map g).flatten = l.map f := by
  rw [List.map_congr_left h, flat_tab]
theorem mem_cast (k : Nat) (cs : List Nat) : decide ((k : Int) ∈ cs.map fun k : Nat => (k : Int)) = decide (k ∈ cs) := by
  apply decide_eq_decide.mpr
  rw [List.mem_map]
  exact ⟨fun ⟨a, h, e⟩ => (by omega : a = k) ▸ h, fun h => ⟨k, h, rfl⟩⟩
theorem insN (k : Nat) (cs : List Nat) : InSq (.i (k : Int)) (.t (cs.map fun k : Nat => .i (k : Int))) (decide (k ∈ cs)) := by
  have := InSq.it (k : Int) (cs.map fun k : Nat => (k : Int))
  rw [mem_cast, List.map_map] at this
  exact this
theorem insNl (k : Nat) (cs : List Nat) : InSq (.i (k : Int)) (.l (cs.map fun k : Nat => .i (k : Int))) (decide (k ∈ cs)) := by
  have := InSq.il (k : Int) (cs.map fun k : Nat => (k : Int))
  rw [mem_cast, List.map_map] at this
  exact this
/-! ### stocks -/
abbrev Sm := List (Tx × Tx)
def pairT (q : Tx × Tx) : D := .t [.s q.1, .s q.2]
def pairL (q : Tx × Tx) : D := .l [.s q.1, .s q.2]
def numK (st : Sm) : List (Tx × D) := ((List.range st.length).zip st).map fun q => (q.2.1, .i (q.1 : Int))
def namesT (st : Sm) : List Tx := st.map (·.1)
def layT (st : Sm) : List Tx := st.map (·.2)
def stockD (n : Nat) (st : Sm) : D := .o 1 [.i (n : Int), .t (st.map pairT), .t ((layT st).map .s), .k (numK st)]
structure OkL (n : Nat) (x : Tx) : Prop where
  len : x.length = n
  signs : ∀ c ∈ x, c ∈ 45 :: marksT
structure OkN (x : Tx) : Prop where
  lo : 1 ≤ x.length
  hi : x.length ≤ 8
  head : at_ x 0 ∈ lettersT
  signs : ∀ c ∈ x, c ∈ lettersT ∨ c ∈ digitsT
structure OkS (n : Nat) (st : Sm) : Prop where
  lo : 1 ≤ n
  hi : n ≤ 30
  lay : ∀ q ∈ st, OkL n q.2
  full : ∀ q ∈ st, q.2 ≠ blank n
  name : ∀ q ∈ st, OkN q.1
  nd : (namesT st).Nodup
  few : st.length ≤ 20
theorem OkL.sub {n : Nat} {x : Tx} (h : OkL n x) {k : Nat} (hk : k < n) : at_ x k ∈ 45 :: marksT := by
  have : k < x.length := by rw [h.len]; exact hk
  have e : at_ x k = x[k] := by simp [at_, List.getD_eq_getElem?_getD, this]
  rw [e]
  exact h.signs _ (List.getElem_mem this)
/-! ### peeling -/
def freesF (s left : Tx) : Bool := agreeF s left && decide (freedF left s ≠ left)
def optD : Option Nat → D
  | none => .n
  | some k => .i (k : Int)
/-! ### found or not -/
section
variable {α : Type} {p : α → Bool} {l : List α}
theorem all_find (h : l.find? p = none) : (l.all fun a => !p a) = true := by
  rw [List.all_eq_true]
  intro a ha
  have := List.find?_eq_none.mp h a ha
  simpa using this
theorem all_found {a : α} (h : l.find? p = some a) : (l.all fun a => !p a) = false := by
  rw [List.all_eq_false]
  exact ⟨a, List.mem_of_find?_eq_some h, by simp [List.find?_some h]⟩
theorem any_find (h : l.find? p = none) : l.any p = false := by
  rw [List.any_eq_false]
  intro a ha
  exact List.find?_eq_none.mp h a ha
theorem any_found {a : α} (h : l.find? p = some a) : l.any p = true := by
  rw [List.any_eq_true]
  exact ⟨a, List.mem_of_find?_eq_some h, List.find?_some h⟩
end
theorem agree_zip {x y : Tx} (h : x.length = y.length) : agreeF x y = (x.zip y).all fun q => !(decide (q.1 ≠ 45) && (decide (q.2 ≠ 45) && decide (q.1 ≠ q.2))) := by
  rw [zip_tab h, List.all_map]; rfl
theorem inside_zip {x y : Tx} (h : x.length = y.length) : insideF x y = (x.zip y).all fun q => !(decide (q.1 ≠ 45) && decide (q.2 = 45)) := by
  rw [zip_tab h, List.all_map]; rfl
/-- the first stamp that frees a mark -/
def firstF (L : List Tx) (left : Tx) : Option Nat := (((List.range L.length).zip L).find? fun q => freesF q.2 left).map (·.1)
def peelW (L : List Tx) : Nat → Tx → List Nat × Tx
  | 0, left => ([], left)
  | n + 1, left => match firstF L left with
    | none => ([], left)
    | some k => let r := peelW L n (freedF left (L.getD k [])); (k :: r.1, r.2)
def peelF (L : List Tx) (left : Tx) : List Nat × Tx := peelW L (left.length + 1) left
def marksN (x : Tx) : Nat := (cellsF x).length
def peelS (st : Sm) (left : Tx) : List Tx × Tx := ((peelF (layT st) left).1.map fun k => (namesT st).getD k [], (peelF (layT st) left).2)
def innerS (st : Sm) (x : Tx) : Sm := st.filter fun q => insideF q.2 x
/-- how a stamp is made of a stock: the row, or the cells left over -/
def madeF (st : Sm) (x : Tx) : Option (List Tx) × List Nat :=
  let r := peelS (innerS st x) x
  if cellsF r.2 = [] then (some r.1.reverse, []) else (none, cellsF r.2)
def rowD : Option (List Tx) → D
  | none => .n
  | some r => .t (r.map .s)
def nameD : Option Tx → D
  | none => .n
  | some x => .s x
def natsD (l : List Nat) : List D := l.map fun k : Nat => .i (k : Int)
def rowsF (mk st : Sm) : List (Option (List Tx)) := (layT st).map fun x => (madeF mk x).1
def missF (st : Sm) (rows : List (Option (List Tx))) : Option Tx := (((namesT st).zip rows).find? fun q => q.2.isNone).map (·.1)
def wordF (a b : Bool) : Tx := if a then (if b then [97, 112, 97, 114, 116] else [97, 114, 111, 117, 110, 100]) else (if b then [105, 110, 115, 105, 100, 101] else [97, 108, 105, 107, 101])
def strangeM (L : List Tx) (k : Nat) : Nat := (marksT.reverse.filter fun m => decide (m ∉ L.map fun x => at_ x k)).getD 0 0
def strangeF (n : Nat) (L : List Tx) : Tx := tab n (strangeM L)
def netF (n : Nat) (L : List Tx) : Tx := L.foldl pressF (blank n)
def lookS (st : Sm) (x : Tx) : Option Tx := (st.find? fun q => decide (q.1 = x)).map (·.2)
/-! ### found by number -/
theorem enum_find' {α : Type} (p : α → Bool) : ∀ (l : List α) (s : Nat), ((List.range' s l.length).zip l).find? (fun q => p q.2) = (l.findIdx? p).bind fun k => (l[k]?).map fun a => (s + k, a)
  | [], s => by simp
  | a :: l, s => by
    rw [List.length_cons, List.range'_succ, List.zip_cons_cons, List.findIdx?_cons]
    cases h : p a with
    | true => rw [List.find?_cons_of_pos (by simpa using h)]; simp
    | false =>
      rw [List.find?_cons_of_neg (by simp [h]), enum_find' p l (s + 1)]
      cases l.findIdx? p with
      | none => rfl
      | some k =>
        simp only [Bool.false_eq_true, if_false, Option.map_some, Option.bind_some, List.getElem?_cons_succ]
        cases l[k]? with
        | none => rfl
        | some b => simp only [Option.map_some]; congr 2; omega
theorem enum_find {α : Type} (p : α → Bool) (l : List α) : ((List.range l.length).zip l).find? (fun q => p q.2) = (l.findIdx? p).bind fun k => (l[k]?).map fun a => (k, a) := by
  have := enum_find' p l 0
  rw [← List.range_eq_range'] at this
  rw [this]
  simp
theorem firstF_eq (L : List Tx) (x : Tx) : firstF L x = L.findIdx? fun m => freesF m x := by
  unfold firstF
  rw [enum_find (fun m => freesF m x) L]
  cases h : L.findIdx? fun m => freesF m x with
  | none => rfl
  | some k =>
    obtain ⟨hk, _⟩ := List.findIdx?_eq_some_iff_getElem.mp h
    simp [List.getElem?_eq_getElem hk]
theorem firstF_some {L : List Tx} {x : Tx} {k : Nat} (h : firstF L x = some k) : k < L.length ∧ freesF (L.getD k []) x = true := by
  rw [firstF_eq] at h
  obtain ⟨hk, h1, _⟩ := List.findIdx?_eq_some_iff_getElem.mp h
  exact ⟨hk, by simpa [List.getD_eq_getElem?_getD, List.getElem?_eq_getElem hk] using h1⟩
theorem firstF_none {L : List Tx} {x : Tx} (h : firstF L x = none) : ∀ m ∈ L, freesF m x = false := by
  rw [firstF_eq] at h
  intro m hm
  have := List.findIdx?_eq_none_iff.mp h m hm
  simpa using this
theorem filter_lt {α : Type} {p q : α → Bool} : ∀ {l : List α}, (∀ a ∈ l, q a = true → p a = true) → (∃ a ∈ l, p a = true ∧ q a = false) → (l.filter q).length < (l.filter p).length
  | [], _, ⟨a, h, _⟩ => absurd h (by simp)
  | b :: l, hs, ⟨a, h, h1, h2⟩ => by
    have le : ∀ {l : List α}, (∀ a ∈ l, q a = true → p a = true) → (l.filter q).length ≤ (l.filter p).length := by
      intro l
      induction l with
      | nil => intro _; simp
      | cons c l ih =>
        intro hs
        have := ih fun a ha => hs a (List.mem_cons_of_mem _ ha)
        cases hq : q c with
        | true => rw [List.filter_cons_of_pos hq, List.filter_cons_of_pos (hs c List.mem_cons_self hq)]; simpa using this
        | false =>
          rw [List.filter_cons_of_neg (by simp [hq])]
          cases hp : p c with
          | true => rw [List.filter_cons_of_pos hp]; simp; omega
          | false => rw [List.filter_cons_of_neg (by simp [hp])]; exact this
    rcases List.mem_cons.mp h with rfl | h
    · rw [List.filter_cons_of_pos h1, List.filter_cons_of_neg (by simp [h2])]
      have := le fun c hc => hs c (List.mem_cons_of_mem _ hc)
      simp; omega
    · have ih := filter_lt (fun c hc => hs c (List.mem_cons_of_mem _ hc)) ⟨a, h, h1, h2⟩
      cases hq : q b with
      | true => rw [List.filter_cons_of_pos hq, List.filter_cons_of_pos (hs b List.mem_cons_self hq)]; simpa using ih
      | false =>
        rw [List.filter_cons_of_neg (by simp [hq])]
        cases hp : p b with
        | true => rw [List.filter_cons_of_pos hp]; simp; omega
        | false => rw [List.filter_cons_of_neg (by simp [hp])]; exact ih
theorem marks_lt {m x : Tx} (h : freesF m x = true) : marksN (freedF x m) < marksN x := by
  have hne : freedF x m ≠ x := by
    have := (Bool.and_eq_true_iff.mp h).2
    simpa using this
  unfold marksN cellsF
  rw [freedF_len]
  refine filter_lt (fun k hk hq => ?_) ?_
  · have hk := List.mem_range.mp hk
    simp only [decide_eq_true_eq] at hq ⊢
    rw [at_freed hk] at hq
    intro z
    rw [z] at hq
    simp at hq
  · apply Classical.byContradiction
    intro hn
    refine hne (tx_ext (freedF_len _ _) fun k hk => ?_)
    rw [freedF_len] at hk
    rw [at_freed hk]
    by_cases c : at_ m k = 45
    · rw [if_pos c]
    · rw [if_neg c]
      apply Classical.byContradiction
      intro hx
      refine hn ⟨k, List.mem_range.mpr hk, by simpa using fun z => hx z.symm, ?_⟩
      rw [at_freed hk, if_neg c]
      simp
theorem marks_le (x : Tx) : marksN x ≤ x.length := by
  unfold marksN cellsF
  exact Nat.le_trans (List.length_filter_le _ _) (by simp)
end Q8
/-! What the head is asked. -/
namespace Q8
open PySem L2 PyProof.Rows
def fn0 : List He.DefD := [
  ⟨("is_layer", none), "is_layer", "is_layer", defArgs (top 12), defBody (top 12), defScope (top 12), [], []⟩,
  ⟨("cells_of", none), "cells_of", "cells_of", defArgs (top 13), defBody (top 13), defScope (top 13), [], []⟩,
  ⟨("agree", none), "agree", "agree", defArgs (top 14), defBody (top 14), defScope (top 14), [], []⟩,
  ⟨("freed", none), "freed", "freed", defArgs (top 15), defBody (top 15), defScope (top 15), [], []⟩,
  ⟨("empty_layer", none), "empty_layer", "empty_layer", defArgs (top 16), defBody (top 16), defScope (top 16), [], []⟩,
  ⟨("press", none), "press", "press", defArgs (top 17), defBody (top 17), defScope (top 17), [], []⟩,
  ⟨("frozen", none), "frozen", "frozen", defArgs (top 18), defBody (top 18), defScope (top 18), [], []⟩,
  ⟨("cell_set", none), "cell_set", "cell_set", defArgs (top 19), defBody (top 19), defScope (top 19), [], []⟩,
  ⟨("peeled", none), "peeled", "peeled", defArgs (top 22), defBody (top 22), defScope (top 22), [], []⟩,
  ⟨("frees_marks", none), "frees_marks", "frees_marks", defArgs (top 23), defBody (top 23), defScope (top 23), [], []⟩,
  ⟨("first_to_peel", none), "first_to_peel", "first_to_peel", defArgs (top 24), defBody (top 24), defScope (top 24), [], []⟩,
  ⟨("peel_by", none), "peel_by", "peel_by", defArgs (top 25), defBody (top 25), defScope (top 25), [], []⟩,
  ⟨("peeling", none), "peeling", "peeling", defArgs (top 26), defBody (top 26), defScope (top 26), [], []⟩,
  ⟨("covers_some", none), "covers_some", "covers_some", defArgs (top 28), defBody (top 28), defScope (top 28), [], []⟩,
  ⟨("contradicts", none), "contradicts", "contradicts", defArgs (top 29), defBody (top 29), defScope (top 29), [], []⟩]
def fn1 : List He.DefD := [
  ⟨("fast_for", none), "fast_for", "fast_for", defArgs (top 30), defBody (top 30), defScope (top 30), [], []⟩,
  ⟨("is_fast", none), "is_fast", "is_fast", defArgs (top 31), defBody (top 31), defScope (top 31), [], []⟩,
  ⟨("is_name", none), "is_name", "is_name", defArgs (top 36), defBody (top 36), defScope (top 36), [], []⟩,
  ⟨("is_stamp", none), "is_stamp", "is_stamp", defArgs (top 37), defBody (top 37), defScope (top 37), [], []⟩,
  ⟨("known_names", none), "known_names", "known_names", defArgs (top 39), defBody (top 39), defScope (top 39), [], []⟩,
  ⟨("covers_only", none), "covers_only", "covers_only", defArgs (top 42), defBody (top 42), defScope (top 42), [], []⟩,
  ⟨("inner_stock", none), "inner_stock", "inner_stock", defArgs (top 43), defBody (top 43), defScope (top 43), [], []⟩,
  ⟨("stamp_making", none), "stamp_making", "stamp_making", defArgs (top 44), defBody (top 44), defScope (top 44), [], []⟩,
  ⟨("is_stamp_refusal", none), "is_stamp_refusal", "is_stamp_refusal", defArgs (top 45), defBody (top 45), defScope (top 45), [], []⟩,
  ⟨("strange_mark", none), "strange_mark", "strange_mark", defArgs (top 48), defBody (top 48), defScope (top 48), [], []⟩,
  ⟨("strange_sheet", none), "strange_sheet", "strange_sheet", defArgs (top 49), defBody (top 49), defScope (top 49), [], []⟩,
  ⟨("rows_by", none), "rows_by", "rows_by", defArgs (top 50), defBody (top 50), defScope (top 50), [], []⟩,
  ⟨("first_missing", none), "first_missing", "first_missing", defArgs (top 51), defBody (top 51), defScope (top 51), [], []⟩,
  ⟨("comparison_word", none), "comparison_word", "comparison_word", defArgs (top 52), defBody (top 52), defScope (top 52), [], []⟩,
  ⟨("compare_stocks", none), "compare_stocks", "compare_stocks", defArgs (top 53), defBody (top 53), defScope (top 53), [], []⟩]
def fn2 : List He.DefD := [
  ⟨("row_layers", none), "row_layers", "row_layers", defArgs (top 55), defBody (top 55), defScope (top 55), [], []⟩,
  ⟨("press_all", none), "press_all", "press_all", defArgs (top 56), defBody (top 56), defScope (top 56), [], []⟩,
  ⟨("net_of", none), "net_of", "net_of", defArgs (top 57), defBody (top 57), defScope (top 57), [], []⟩,
  ⟨("net_stamp", none), "net_stamp", "net_stamp", defArgs (top 58), defBody (top 58), defScope (top 58), [], []⟩,
  ⟨("is_row_for", none), "is_row_for", "is_row_for", defArgs (top 61), defBody (top 61), defScope (top 61), [], []⟩,
  ⟨("are_rows_for", none), "are_rows_for", "are_rows_for", defArgs (top 62), defBody (top 62), defScope (top 62), [], []⟩,
  ⟨("is_missing_right", none), "is_missing_right", "is_missing_right", defArgs (top 63), defBody (top 63), defScope (top 63), [], []⟩,
  ⟨("is_strange", none), "is_strange", "is_strange", defArgs (top 64), defBody (top 64), defScope (top 64), [], []⟩,
  ⟨("is_comparison", none), "is_comparison", "is_comparison", defArgs (top 65), defBody (top 65), defScope (top 65), [], []⟩,
  ⟨("_law_whole", none), "_law_whole", "_law_whole", defArgs (top 67), defBody (top 67), defScope (top 67), [], []⟩,
  ⟨("_law_cell", none), "_law_cell", "_law_cell", defArgs (top 68), defBody (top 68), defScope (top 68), [], []⟩,
  ⟨("_law_digits", none), "_law_digits", "_law_digits", defArgs (top 69), defBody (top 69), defScope (top 69), [], []⟩,
  ⟨("_law_marks", none), "_law_marks", "_law_marks", defArgs (top 70), defBody (top 70), defScope (top 70), [], []⟩,
  ⟨("_law_stamp", none), "_law_stamp", "_law_stamp", defArgs (top 71), defBody (top 71), defScope (top 71), [], []⟩,
  ⟨("_law_named", none), "_law_named", "_law_named", defArgs (top 72), defBody (top 72), defScope (top 72), [], []⟩]
def fn3 : List He.DefD := [
  ⟨("_law_base", none), "_law_base", "_law_base", defArgs (top 73), defBody (top 73), defScope (top 73), [], []⟩,
  ⟨("_law_press", none), "_law_press", "_law_press", defArgs (top 74), defBody (top 74), defScope (top 74), [], []⟩,
  ⟨("_law_agree", none), "_law_agree", "_law_agree", defArgs (top 75), defBody (top 75), defScope (top 75), [], []⟩,
  ⟨("_law_free", none), "_law_free", "_law_free", defArgs (top 76), defBody (top 76), defScope (top 76), [], []⟩,
  ⟨("_law_layer_of", none), "_law_layer_of", "_law_layer_of", defArgs (top 77), defBody (top 77), defScope (top 77), [], []⟩,
  ⟨("_law_peel", none), "_law_peel", "_law_peel", defArgs (top 78), defBody (top 78), defScope (top 78), [], []⟩,
  ⟨("_law_nets", none), "_law_nets", "_law_nets", defArgs (top 79), defBody (top 79), defScope (top 79), [], []⟩,
  ⟨("_law_changed", none), "_law_changed", "_law_changed", defArgs (top 80), defBody (top 80), defScope (top 80), [], []⟩,
  ⟨("_law_thin", none), "_law_thin", "_law_thin", defArgs (top 81), defBody (top 81), defScope (top 81), [], []⟩,
  ⟨("_law_recoloured", none), "_law_recoloured", "_law_recoloured", defArgs (top 82), defBody (top 82), defScope (top 82), [], []⟩,
  ⟨("_law_crowd", none), "_law_crowd", "_law_crowd", defArgs (top 83), defBody (top 83), defScope (top 83), [], []⟩,
  ⟨("_law_derived", none), "_law_derived", "_law_derived", defArgs (top 84), defBody (top 84), defScope (top 84), [], []⟩,
  ⟨("_law_two", none), "_law_two", "_law_two", defArgs (top 85), defBody (top 85), defScope (top 85), [], []⟩,
  ⟨("_law_two_or_crowd", none), "_law_two_or_crowd", "_law_two_or_crowd", defArgs (top 86), defBody (top 86), defScope (top 86), [], []⟩,
  ⟨("_law_wider", none), "_law_wider", "_law_wider", defArgs (top 87), defBody (top 87), defScope (top 87), [], []⟩]
def fn4 : List He.DefD := [
  ⟨("_law_widened", none), "_law_widened", "_law_widened", defArgs (top 88), defBody (top 88), defScope (top 88), [], []⟩,
  ⟨("_law_widened_two", none), "_law_widened_two", "_law_widened_two", defArgs (top 89), defBody (top 89), defScope (top 89), [], []⟩,
  ⟨("_law_sheet", none), "_law_sheet", "_law_sheet", defArgs (top 90), defBody (top 90), defScope (top 90), [], []⟩,
  ⟨("_law_inner", none), "_law_inner", "_law_inner", defArgs (top 91), defBody (top 91), defScope (top 91), [], []⟩,
  ⟨("_law_made", none), "_law_made", "_law_made", defArgs (top 92), defBody (top 92), defScope (top 92), [], []⟩,
  ⟨("_law_net", none), "_law_net", "_law_net", defArgs (top 93), defBody (top 93), defScope (top 93), [], []⟩,
  ⟨("_law_row_told", none), "_law_row_told", "_law_row_told", defArgs (top 94), defBody (top 94), defScope (top 94), [], []⟩,
  ⟨("_law_rows_told", none), "_law_rows_told", "_law_rows_told", defArgs (top 95), defBody (top 95), defScope (top 95), [], []⟩,
  ⟨("_law_cells_told", none), "_law_cells_told", "_law_cells_told", defArgs (top 96), defBody (top 96), defScope (top 96), [], []⟩,
  ⟨("_law_text_told", none), "_law_text_told", "_law_text_told", defArgs (top 97), defBody (top 97), defScope (top 97), [], []⟩,
  ⟨("_law_stock_told", none), "_law_stock_told", "_law_stock_told", defArgs (top 98), defBody (top 98), defScope (top 98), [], []⟩,
  ⟨("_law_copy", none), "_law_copy", "_law_copy", defArgs (top 99), defBody (top 99), defScope (top 99), [], []⟩,
  ⟨("_law_tuples", none), "_law_tuples", "_law_tuples", defArgs (top 100), defBody (top 100), defScope (top 100), [], []⟩,
  ⟨("_law_strange", none), "_law_strange", "_law_strange", defArgs (top 101), defBody (top 101), defScope (top 101), [], []⟩,
  ⟨("_law_compared", none), "_law_compared", "_law_compared", defArgs (top 102), defBody (top 102), defScope (top 102), [], []⟩]
def fn5 : List He.DefD := [
  ⟨("_law_resized", none), "_law_resized", "_law_resized", defArgs (top 103), defBody (top 103), defScope (top 103), [], []⟩,
  ⟨("_law_shown", none), "_law_shown", "_law_shown", defArgs (top 104), defBody (top 104), defScope (top 104), [], []⟩,
  ⟨("_law_right", none), "_law_right", "_law_right", defArgs (top 105), defBody (top 105), defScope (top 105), [], []⟩,
  ⟨("_law_reached", none), "_law_reached", "_law_reached", defArgs (top 106), defBody (top 106), defScope (top 106), [], []⟩,
  ⟨("_law_word", none), "_law_word", "_law_word", defArgs (top 107), defBody (top 107), defScope (top 107), [], []⟩,
  ⟨("_law_side_right", none), "_law_side_right", "_law_side_right", defArgs (top 108), defBody (top 108), defScope (top 108), [], []⟩,
  ⟨("_law_forwards", none), "_law_forwards", "_law_forwards", defArgs (top 109), defBody (top 109), defScope (top 109), [], []⟩,
  ⟨("_law_judged", none), "_law_judged", "_law_judged", defArgs (top 110), defBody (top 110), defScope (top 110), [], []⟩,
  ⟨("_law_crowds", none), "_law_crowds", "_law_crowds", defArgs (top 111), defBody (top 111), defScope (top 111), [], []⟩,
  ⟨("_law_crowds_right", none), "_law_crowds_right", "_law_crowds_right", defArgs (top 112), defBody (top 112), defScope (top 112), [], []⟩,
  ⟨("_law_refused", none), "_law_refused", "_law_refused", defArgs (top 113), defBody (top 113), defScope (top 113), [], []⟩,
  ⟨("law", none), "law", "law", defArgs (top 114), defBody (top 114), defScope (top 114), [], []⟩,
  ⟨("Peeling", some "__init__"), "__init__", "Peeling.__init__", defArgs (meth 21 0), defBody (meth 21 0), defScope (meth 21 0), [], []⟩,
  ⟨("Stock", some "__init__"), "__init__", "Stock.__init__", defArgs (meth 38 0), defBody (meth 38 0), defScope (meth 38 0), [], []⟩,
  ⟨("StampMaking", some "__init__"), "__init__", "StampMaking.__init__", defArgs (meth 41 0), defBody (meth 41 0), defScope (meth 41 0), [], []⟩]
def fn6 : List He.DefD := [
  ⟨("Comparison", some "__init__"), "__init__", "Comparison.__init__", defArgs (meth 47 0), defBody (meth 47 0), defScope (meth 47 0), [], []⟩,
  ⟨("Stock", some "__len__"), "__len__", "Stock.__len__", defArgs (meth 38 2), defBody (meth 38 2), defScope (meth 38 2), [], []⟩,
  ⟨("Stock", some "__contains__"), "__contains__", "Stock.__contains__", defArgs (meth 38 3), defBody (meth 38 3), defScope (meth 38 3), [], []⟩,
  ⟨("Stock", some "place"), "place", "Stock.place", defArgs (meth 38 7), defBody (meth 38 7), defScope (meth 38 7), [], []⟩,
  ⟨("Stock", some "stamp"), "stamp", "Stock.stamp", defArgs (meth 38 8), defBody (meth 38 8), defScope (meth 38 8), [], []⟩,
  ⟨("SizesDiffer", some "__init__"), "__init__", "SizesDiffer.__init__", defArgs (meth 6 0), defBody (meth 6 0), defScope (meth 6 0), [], []⟩]
def fnQ : List He.DefD := fn0 ++ fn1 ++ fn2 ++ fn3 ++ fn4 ++ fn5 ++ fn6
def fa0 : List He.Fa := [.glo "is_layer", .glo "cells_of", .glo "agree", .glo "freed", .glo "empty_layer", .glo "press", .glo "frozen", .glo "cell_set", .glo "peeled", .glo "frees_marks", .glo "first_to_peel", .glo "peel_by", .glo "peeling", .glo "covers_some", .glo "contradicts", .glo "fast_for", .glo "is_fast", .glo "is_name"]
def fa1 : List He.Fa := [.glo "is_stamp", .glo "known_names", .glo "covers_only", .glo "inner_stock", .glo "stamp_making", .glo "is_stamp_refusal", .glo "strange_mark", .glo "strange_sheet", .glo "rows_by", .glo "first_missing", .glo "comparison_word", .glo "compare_stocks", .glo "row_layers", .glo "press_all", .glo "net_of", .glo "net_stamp", .glo "is_row_for", .glo "are_rows_for"]
def fa2 : List He.Fa := [.glo "is_missing_right", .glo "is_strange", .glo "is_comparison", .glo "_law_whole", .glo "_law_cell", .glo "_law_digits", .glo "_law_marks", .glo "_law_stamp", .glo "_law_named", .glo "_law_base", .glo "_law_press", .glo "_law_agree", .glo "_law_free", .glo "_law_layer_of", .glo "_law_peel", .glo "_law_nets", .glo "_law_changed", .glo "_law_thin"]
def fa3 : List He.Fa := [.glo "_law_recoloured", .glo "_law_crowd", .glo "_law_derived", .glo "_law_two", .glo "_law_two_or_crowd", .glo "_law_wider", .glo "_law_widened", .glo "_law_widened_two", .glo "_law_sheet", .glo "_law_inner", .glo "_law_made", .glo "_law_net", .glo "_law_row_told", .glo "_law_rows_told", .glo "_law_cells_told", .glo "_law_text_told", .glo "_law_stock_told", .glo "_law_copy"]
def fa4 : List He.Fa := [.glo "_law_tuples", .glo "_law_strange", .glo "_law_compared", .glo "_law_resized", .glo "_law_shown", .glo "_law_right", .glo "_law_reached", .glo "_law_word", .glo "_law_side_right", .glo "_law_forwards", .glo "_law_judged", .glo "_law_crowds", .glo "_law_crowds_right", .glo "_law_refused", .glo "law", .glo "Peeling", .glo "Stock", .glo "StampMaking"]
def fa5 : List He.Fa := [.glo "Comparison", .glo "SizesDiffer", .glo "NameTaken", .glo "UnknownName", .glo "StampError", .glo "WORDS", .free "len", .free "int", .free "str", .free "bool", .free "range", .free "zip", .free "enumerate", .free "isinstance", .free "min", .free "max", .free "sum", .free "tuple"]
def fa6 : List He.Fa := [.free "list", .free "sorted", .free "set", .free "ValueError", .str "MARKS" ".abcdefghijklmnopqrstuvwxyz", .str "SIGNS" "-.abcdefghijklmnopqrstuvwxyz", .str "LETTERS" "abcdefghijklmnopqrstuvwxyz", .str "DIGITS" "0123456789", .int "MOST_CELLS" 30, .int "LONGEST_NAME" 8, .cls "Peeling", .mkr "Peeling", .noat "Peeling" "seen", .noat "Peeling" "order", .noat "Peeling" "left", .cls "Stock", .mkr "Stock", .noat "Stock" "size"]
def fa7 : List He.Fa := [.noat "Stock" "stamps", .noat "Stock" "layers", .noat "Stock" "numbers", .cls "StampMaking", .mkr "StampMaking", .noat "StampMaking" "made", .noat "StampMaking" "row", .noat "StampMaking" "cells", .cls "Comparison", .mkr "Comparison", .noat "Comparison" "word", .noat "Comparison" "rows", .noat "Comparison" "other_rows", .noat "Comparison" "missing", .noat "Comparison" "other_missing", .noat "Comparison" "sheet", .meth "Stock" "__len__", .meth "Stock" "__contains__"]
def fa8 : List He.Fa := [.meth "Stock" "place", .meth "Stock" "stamp"]
def faQ : List He.Fa := fa0 ++ fa1 ++ fa2 ++ fa3 ++ fa4 ++ fa5 ++ fa6 ++ fa7 ++ fa8
def lo0 : List Str := ["_wall", "StampError", "BadName", "BadStamp", "NameTaken", "SizesDiffer", "UnknownName", "MARKS", "SIGNS", "MOST_CELLS", "is_layer", "cells_of", "agree", "freed", "empty_layer", "press", "frozen", "cell_set"]
def lo1 : List Str := ["Peeling", "peeled", "frees_marks", "first_to_peel", "peel_by", "peeling", "covers_some", "contradicts", "fast_for", "is_fast", "LETTERS", "DIGITS", "LONGEST_NAME", "is_name", "is_stamp", "Stock", "known_names", "StampMaking"]
def lo2 : List Str := ["covers_only", "inner_stock", "stamp_making", "is_stamp_refusal", "Comparison", "strange_mark", "strange_sheet", "rows_by", "first_missing", "comparison_word", "compare_stocks", "row_layers", "press_all", "net_of", "net_stamp", "WORDS", "is_row_for", "are_rows_for"]
def lo3 : List Str := ["is_missing_right", "is_strange", "is_comparison", "_law_whole", "_law_cell", "_law_digits", "_law_marks", "_law_stamp", "_law_named", "_law_base", "_law_press", "_law_agree", "_law_free", "_law_layer_of", "_law_peel", "_law_nets", "_law_changed", "_law_thin"]
def lo4 : List Str := ["_law_recoloured", "_law_crowd", "_law_derived", "_law_two", "_law_two_or_crowd", "_law_wider", "_law_widened", "_law_widened_two", "_law_sheet", "_law_inner", "_law_made", "_law_net", "_law_row_told", "_law_rows_told", "_law_cells_told", "_law_text_told", "_law_stock_told", "_law_copy"]
def lo5 : List Str := ["_law_tuples", "_law_strange", "_law_compared", "_law_resized", "_law_shown", "_law_right", "_law_reached", "_law_word", "_law_side_right", "_law_forwards", "_law_judged", "_law_crowds", "_law_crowds_right", "_law_refused"]
def loQ : List Str := lo0 ++ lo1 ++ lo2 ++ lo3 ++ lo4 ++ lo5
abbrev rowQ : PySem.W.OpenRow := PySem.W.OpenLaw.row PySem.Challenge.rw_stampsheets_k38_compare_whole
def clQ (K : PySem.W.Frag) : Nat → Addr
  | 0 => He.ga K "Peeling"
  | 1 => He.ga K "Stock"
  | 2 => He.ga K "StampMaking"
  | _ => He.ga K "Comparison"
/-- the property's object, its getter -/
def poA (K : PySem.W.Frag) : Addr := He.ma K (He.ga K "Stock") "names"
def pgA (K : PySem.W.Frag) : Addr := match PySem.W.recIn K (poA K) "property" with
  | some (.ref g :: _) => g
  | _ => 0
def isPg (K : PySem.W.Frag) : Bool := match PySem.W.recIn K (poA K) "property" with
  | some (.ref _ :: _) => true
  | _ => false
def dP : He.DefD := ⟨("Stock", some "names"), "names", "Stock.names", defArgs (meth 38 1), defBody (meth 38 1), defScope (meth 38 1), [], []⟩
/-- the function object at an address -/
def fdAt (K : PySem.W.Frag) (a : Addr) : Option FuncData := (K.lookup a).bind fun o => match o.data with
  | .func z => some z
  | _ => none
def fnAt (K : PySem.W.Frag) (a : Addr) : He.FnW := (fdAt K a).map fun z => (z.name, z.qualname, z.params, z.body, z.scope, z.globals, z.closure, z.builtins)
def okAt (K : PySem.W.Frag) (a : Addr) (q : Str) : Bool := PySem.W.keepIn K (.ref a) && match fdAt K a with
  | some z => PySem.W.codeIn K z.code q && (He.dflB K z.defaults [] && He.kwdB K z.kwdefaults [])
  | none => false
/-- an own class over ValueError, as it is made -/
def veB (K : PySem.W.Frag) (C : Addr) : Bool := match K.lookup C with
  | some ⟨.type "type", _, .cls z, sl⟩ => match z.mro, sl.toList with
    | .ref D :: r, [_, _, _, _, some (.builtin y), _] => decide (D = C) && (decide (y = "ValueError.__new__") && (!z.hasDel && (z.hasDict && PySem.HandSPX.refsVE r)))
    | _, _ => false
  | _ => false
def oO (a b : Option (Option Value)) : Bool := decide (a = b)
def oB (a b : Option Bool) : Bool := decide (a = b)
def exL (K : PySem.W.Frag) : List Bool :=
  let s := He.ga K "SizesDiffer"
  let i := He.ma K s "__init__"
  let oc : Option (Option Value) := some (some (.builtin "object.__class__"))
  [veB K s, oO (PySem.W.findIn K (.ref s) "__setattr__") (some (some (.builtin "object.__setattr__"))), oB (PySem.W.subIn K (.ref s) (.type "BaseException")) (some true), decide (PySem.W.typeIn K (.ref s) = some (.type "type")), PySem.W.keepIn K (.ref s), xfB K s,
   oO (PySem.W.findIn K (.ref s) "one") (some none), oO (PySem.W.findIn K (.ref s) "two") (some none), (PySem.W.clsIn K s).isSome, oO (PySem.W.findIn K (.ref s) "__class__") oc,
   oO (PySem.W.specialIn K (.builtin "object.__class__") "__get__") (some (some (.builtin "getset_descriptor.__get__"))), oB (PySem.W.takesIn K (.builtin "object.__class__")) (some true), oB (PySem.W.mroIn K s (.type "object")) (some true),
   oB (PySem.W.kitOne K (.ref s) (.ref (He.ga K "NameTaken"))) (some false), oB (PySem.W.kitOne K (.ref s) (.ref (He.ga K "UnknownName"))) (some false), oB (PySem.W.kitOne K (.ref s) (.type "ValueError")) (some true), oB (PySem.W.kitOne K (.ref s) (.ref s)) (some true),
   oB (PySem.W.exmOne K (.ref s) (.ref s)) (some true), oB (PySem.W.exmOne K (.ref s) (.ref (He.ga K "StampError"))) (some true),
   oO (PySem.W.findIn K (.ref s) "__init__") (some (some (.ref i))), decide (PySem.W.typeIn K (.ref i) = some (.type "function")),
   oO (PySem.W.findIn K (.ref (clQ K 1)) "__class__") oc, oB (PySem.W.mroIn K (clQ K 1) (.type "object")) (some true), oO (PySem.W.findIn K (.ref (clQ K 3)) "__class__") oc, oB (PySem.W.mroIn K (clQ K 3) (.type "object")) (some true),
   oO (PySem.W.findIn K (.ref (clQ K 1)) "names") (some (some (.ref (poA K)))), oO (PySem.W.specialIn K (.ref (poA K)) "__get__") (some (some (.builtin "property.__get__"))), oB (PySem.W.takesIn K (.ref (poA K))) (some true), isPg K, okAt K (pgA K) "Stock.names",
   He.tupB K "WORDS" [.str "alike", .str "inside", .str "around", .str "apart"]]
def exQ (K : PySem.W.Frag) : Bool := (exL K).all id
/-! ### what is looked at -/
def refB : Value → List Addr
  | .ref a => [a]
  | _ => []
/-- behind an object: a dict's values, a def's code, a class's names -/
def behB (o : Obj) : List Addr := match o.data with
  | .dict y _ => y.toList.flatMap fun z => refB z.val
  | .func z => refB z.code
  | .cls z => [z.ns]
  | _ => []
def behL (g : Addr → Option Obj) (l : List Addr) : List Addr := l.flatMap fun a => match g a with
  | some o => behB o
  | none => []
/-- behind a record -/
def recB (g : Addr → Option Obj) (l : List Addr) : List Addr := l.flatMap fun a => match g a with
  | some o => (match o.data with
    | .fields y => y.toList.flatMap refB
    | _ => [])
  | none => []
def fragQ (g : Addr → Option Obj) : PySem.W.Frag :=
  let l1 := behL g [mainGlobals]
  let l2 := behL g l1
  let l3 := behL g l2
  let l4 := behL g l3
  let l5 := recB g l3
  let l6 := behL g l5
  He.frG g (mainGlobals :: (l1 ++ (l2 ++ (l3 ++ (l4 ++ (l5 ++ l6))))))
abbrev AlQ : Type := Bool × (Bool × List He.FnW) × (He.FnW × Bool)
def seeA (K : PySem.W.Frag) : Bool := faQ.all fun y => y.ok K
def seeB (K : PySem.W.Frag) : Bool × List He.FnW := (fnQ.all fun y => y.ok K, fnQ.map fun y => He.fnW K y.at_)
def seeC (K : PySem.W.Frag) : He.FnW × Bool := (fnAt K (pgA K), exQ K)
def seeQ (K : PySem.W.Frag) : AlQ := (seeA K, seeB K, seeC K)
def valB : Bool × List He.FnW := (true, fnQ.map He.DefD.val)
def valC : He.FnW × Bool := (dP.val, true)
def valQ : AlQ := (true, valB, valC)
def hkQ : PySem.W.Hook where
  α := AlQ
  obs := fun s => seeQ (fragQ s.heap.get?)
  val := fun _ => valQ
  says := fun _ h => ∃ K : PySem.W.Frag, K.In h ∧ seeQ K = valQ
  of := fun _ _ e => ⟨fragQ _, He.frG_in, e⟩
  keeps := fun _ _ _ y k => y.elim fun K z => ⟨K, PySem.W.Frag.In.keeps z.1 k, z.2⟩
def obQ (s : PySem.W.SharedT) : AlQ := seeQ (fragQ (HandSHeadRun.getT s))
theorem obQ_eq (s : PySem.W.SharedT) : obQ s = hkQ.obs s.abs := by
  have e : HandSHeadRun.getT s = s.abs.heap.get? := funext (HandSHeadRun.getT_eq s)
  unfold obQ
  rw [e]
  rfl
theorem says_of {K : PySem.W.Frag} (h : seeQ K = valQ) : He.SaysD faQ fnQ K ∧ fnAt K (pgA K) = dP.val ∧ exQ K = true := by
  have h1 : seeA K = true := congrArg (fun z : AlQ => z.1) h
  have h2 : seeB K = valB := congrArg (fun z : AlQ => z.2.1) h
  have h3 : seeC K = valC := congrArg (fun z : AlQ => z.2.2) h
  have h4 : (fnQ.all fun y => y.ok K) = true := congrArg (fun z : Bool × List He.FnW => z.1) h2
  have h5 : (fnQ.map fun y => He.fnW K y.at_) = fnQ.map He.DefD.val := congrArg (fun z : Bool × List He.FnW => z.2) h2
  refine ⟨?_, congrArg (fun z : He.FnW × Bool => z.1) h3, congrArg (fun z : He.FnW × Bool => z.2) h3⟩
  unfold He.SaysD He.obsD He.valD
  rw [h5]
  unfold seeA at h1
  rw [h1, h4]
  rfl
end Q8
/-! The head's run. -/
namespace Q8
open PySem PySem.Spec PyProof.Rows L2 HandSHeadRun PySem.W
noncomputable def endQ (w : World) (os : OsState) : Option PySem.W.SharedT := endF (stepQ (denQ tabQ) rowQ.prog w) 40000 rowQ.prog w os
abbrev viewQ : Program := PySem.W.view rowQ.prog [114]
theorem run0 (w : World) (os : OsState) : (endQ w os).map (fun s => (looksF rowQ.prog (boot_heap w.params) s.abs, seenQ viewQ loQ (importedModules rowQ.prog.main.body) (fun s => xlAt viewQ [] s && recOk rowQ.toRowW.records s) s.abs)) = some (true, openGood viewQ loQ) := by
  kernel_rfl
theorem runA (w : World) (os : OsState) : (endQ w os).map (fun s => (seeA (fragQ (getT s)), seeC (fragQ (getT s)))) = some (true, valC) := by
  kernel_rfl
theorem runB (w : World) (os : OsState) : (endQ w os).map (fun s => seeB (fragQ (getT s))) = some valB := by
  kernel_rfl
theorem comb {β : Type} {o : Option SharedT} {f1 : SharedT → Bool} {f2 : SharedT → β} {b : β} (h0 : o.map (fun s => (f1 s, f2 s)) = some (true, b)) (hA : o.map (fun s => (seeA (fragQ (getT s)), seeC (fragQ (getT s)))) = some (true, valC)) (hB : o.map (fun s => seeB (fragQ (getT s))) = some valB) : o.map (fun s => (f1 s, f2 s, obQ s)) = some (true, b, valQ) := by
  cases o with
  | none => cases h0
  | some s =>
    have e1 : (f1 s, f2 s) = (true, b) := Option.some.inj h0
    have e2 : (seeA (fragQ (getT s)), seeC (fragQ (getT s))) = (true, valC) := Option.some.inj hA
    have e3 : seeB (fragQ (getT s)) = valB := Option.some.inj hB
    obtain ⟨a1, a2⟩ := Prod.mk.inj e1
    obtain ⟨a3, a4⟩ := Prod.mk.inj e2
    show some (f1 s, f2 s, seeA (fragQ (getT s)), seeB (fragQ (getT s)), seeC (fragQ (getT s))) = some (true, b, true, valB, valC)
    rw [a1, a2, a3, a4, e3]
theorem runQ (w : World) : HandSHeadRun.RunEq rowQ viewQ hkQ obQ 40000 loQ w := by
  intro os
  exact comb (f1 := fun s => looksF rowQ.prog (boot_heap w.params) s.abs) (f2 := fun s => seenQ viewQ loQ (importedModules rowQ.prog.main.body) (fun s => xlAt viewQ [] s && recOk rowQ.toRowW.records s) s.abs) (run0 w os) (runA w os) (runB w os)
end Q8
namespace Q8
open PySem L2 PyProof.Rows
section
variable {W : Wd}
theorem sp_empty_layer (F : Wo W) {n : Nat} (hn : n ≤ 1000) : RB W N_empty_layer (defScope (top 16)) 0 (defBody (top 16)) 1 [.i (n : Int)] (.s (blank n)) := by
  refine ⟨rfl, _, .rt _, ?_⟩
  show XSs (W.ga N_empty_layer (defScope (top 16)) 0) (defBody (top 16)) [.v (.i (n : Int))] _; refine xss_form ?_
  refine xss_retX ⟨_, (xe_times (xe_str (l := [45]) (by decide +kernel)) (xv 0) (by first | exact MulD.i _ _ (by first | exact Or.inl (by omega) | exact Or.inr (by omega) | assumption) | exact MulD.s _ _ _ rfl (by first | omega | (simp; done) | (simp; omega) | assumption) (by first | omega | (simp; done) | (simp; omega) | assumption) | exact MulD.l _ _ _ rfl (by first | omega | (simp; done) | (simp; omega) | assumption) (by first | omega | (simp; done) | (simp; omega) | assumption))), ?_⟩
  simp [blank]
theorem sp_press (F : Wo W) {x y : Tx} (hx : x.length ≤ 1000) (hy : y.length = x.length) : RB W N_press (defScope (top 17)) 0 (defBody (top 17)) 2 [.s x, .s y] (.s (pressF x y)) := by
  refine ⟨rfl, _, .rt _, ?_⟩
  show XSs (W.ga N_press (defScope (top 17)) 0) (defBody (top 17)) [.v (.s x), .v (.s y), .no, .no] _; refine xss_form ?_
  have e : ((x.zip y).map fun q => if q.2 = 45 then [q.1] else [q.2]).flatten = pressF x y := by
    rw [zip_tab hy.symm, List.map_map]
    exact flat_tabE _ _ _ fun k _ => by simp only [Function.comp_apply]; split <;> rfl
  have hl : (pressF x y).length ≤ 100000 := by rw [pressF_len]; omega
  refine xss_one (xs_ret ?_)
  exact (xe_joinE (xe_str (l := []) (by decide +kernel)) (xe_lc (own := [("below", 2), ("above", 3)]) lc_ (xi_zip F.n_zip (xv 0) (xv 1) (by first | exact ZpD.s _ _ | exact ZpD.t _ _ _ _)) (xg_two 2 3 pt_ pt_) (by first | (simp [rangeD]; omega) | (simp; omega) | (simp; done)) (comp_mapS (g := fun q : Nat × Nat => if q.2 = 45 then [q.1] else [q.2]) (fun q hm => ⟨_, _, putt 2 3, (xe_iteS (xt_eq (xv 3) (xe_str (l := [45]) (by decide +kernel)) (by constructor)) (fun hh1 => (xv 2)) (fun hh1 => (xv 3))), by simp⟩))) (by first | assumption | rfl) (by first | assumption | (simp; omega) | omega))
theorem sp_cells_of (F : Wo W) {x : Tx} (hx : x.length ≤ 1000) : RB W N_cells_of (defScope (top 13)) 2 (defBody (top 13)) 1 [.s x] (.t ((cellsF x).map fun k : Nat => .i (k : Int))) := by
  refine ⟨rfl, _, .rt _, ?_⟩
  show XSs (W.ga N_cells_of (defScope (top 13)) 2) (defBody (top 13)) [.v (.s x), .no] _; refine xss_form ?_
  refine xss_one (xs_ret ?_)
  exact (xe_tupleL F.n_tuple (xe_lc (own := [("cell", 1)]) lc_ (xi_range F.n_range (xe_len F.n_len (xv 0) (by first | exact LenD.l _ | exact LenD.t _ | exact LenD.q _ | exact LenD.s _ (by first | omega | (simp; done) | (simp; omega) | assumption))) (by first | omega | (simp; done) | (simp; omega) | assumption)) (xg1 1 pt_) (by first | (simp [rangeD]; omega) | (simp; omega) | (simp; done)) (comp_filter (g := fun k : Nat => .i (k : Int)) (t := fun k => decide (at_ x k ≠ 45)) (fun k hm => have hk := List.mem_range.mp hm; ⟨_, putn 1, XT.eq (xt_ne (xe_ix (xv 0) (xv 1) (by first | exact it2S | exact itS _ rfl (by first | omega | (simp; done) | (simp; omega) | assumption) (by first | omega | (simp; done) | (simp; omega) | assumption) | exact itN _ rfl (by first | omega | (simp; done) | (simp; omega) | assumption) | exact itI _ rfl (by first | omega | (simp; done) | (simp; omega) | assumption) | exact itL _ rfl default (by first | omega | (simp; done) | (simp; omega) | assumption) | exact itT _ rfl default (by first | omega | (simp; done) | (simp; omega) | assumption))) (xe_str (l := [45]) (by decide +kernel)) (by constructor)) (by simp), fun hf => ⟨_, (xv 1), by simp⟩⟩))))
theorem sp_freed (F : Wo W) {x : Tx} {cs : List Nat} (hx : x.length ≤ 1000) : RB W N_freed (defScope (top 15)) 2 (defBody (top 15)) 2 [.s x, .t (cs.map fun k : Nat => .i (k : Int))] (.s (tab x.length fun k => if k ∈ cs then 45 else at_ x k)) := by
  refine ⟨rfl, _, .rt _, ?_⟩
  show XSs (W.ga N_freed (defScope (top 15)) 2) (defBody (top 15)) [.v (.s x), .v (.t (cs.map fun k : Nat => .i (k : Int))), .no] _; refine xss_form ?_
  have e : ((List.range x.length).map fun k => if k ∈ cs then [45] else [at_ x k]).flatten = tab x.length fun k => if k ∈ cs then 45 else at_ x k := flat_tabE _ _ _ fun k _ => by split <;> rfl
  have hl : (tab x.length fun k => if k ∈ cs then 45 else at_ x k).length ≤ 100000 := by rw [tab_len]; omega
  refine xss_one (xs_ret ?_)
  exact (xe_joinE (xe_str (l := []) (by decide +kernel)) (xe_lc (own := [("cell", 2)]) lc_ (xi_range F.n_range (xe_len F.n_len (xv 0) (by first | exact LenD.l _ | exact LenD.t _ | exact LenD.q _ | exact LenD.s _ (by first | omega | (simp; done) | (simp; omega) | assumption))) (by first | omega | (simp; done) | (simp; omega) | assumption)) (xg1 2 pt_) (by first | (simp [rangeD]; omega) | (simp; omega) | (simp; done)) (comp_mapS (g := fun k : Nat => if k ∈ cs then [45] else [at_ x k]) (fun k hm => have hk := List.mem_range.mp hm; ⟨_, _, putn 2, (xe_iteS (xt_in (xv 2) (xv 1) (by first | exact insN _ _ | exact insNl _ _ | exact InSq.sl _ _ | exact InSq.st _ _ | exact InSq.il _ _ | exact InSq.it _ _)) (fun hh1 => (xe_str (l := [45]) (by decide +kernel))) (fun hh1 => (xe_ix (xv 0) (xv 2) (by first | exact it2S | exact itS _ rfl (by first | omega | (simp; done) | (simp; omega) | assumption) (by first | omega | (simp; done) | (simp; omega) | assumption) | exact itN _ rfl (by first | omega | (simp; done) | (simp; omega) | assumption) | exact itI _ rfl (by first | omega | (simp; done) | (simp; omega) | assumption) | exact itL _ rfl default (by first | omega | (simp; done) | (simp; omega) | assumption) | exact itT _ rfl default (by first | omega | (simp; done) | (simp; omega) | assumption))))), by simp⟩))) (by first | assumption | rfl) (by first | assumption | (simp; omega) | omega))
end
end Q8
namespace Q8
open PySem L2 PyProof.Rows
section
variable {W : Wd}
theorem sp_is_layer (F : Wo W) {x : Tx} (h1 : 1 ≤ x.length) (h2 : x.length ≤ 30) (h3 : ∀ c ∈ x, c ∈ 45 :: marksT) : RB W N_is_layer (defScope (top 12)) 2 (defBody (top 12)) 1 [.s x] (.b true) := by
  refine ⟨rfl, _, .rt _, ?_⟩
  show XSs (W.ga N_is_layer (defScope (top 12)) 2) (defBody (top 12)) [.v (.s x), .no] _; refine xss_form ?_
  refine xss_ifX ⟨_, (xt_not (xt_val (xe_isi F.n_isinstance (xv 0) (xe_bty (n := "str") F.n_str rfl (by decide +kernel)) (by constructor) (by constructor) (by first | rfl | exact kit_refl _ _) (by first | (intro c ds h; cases h; done) | (intro c ds h; cases h; first | exact F.ci1 | exact F.ci3))))), fun h => ?_, fun h => ?_⟩
  · cases h
  refine .skip ?_
  refine xss_ifX ⟨_, (xt_not (xt_chain xe_int (xe_len F.n_len (xv 0) (by first | exact LenD.l _ | exact LenD.t _ | exact LenD.q _ | exact LenD.s _ (by first | omega | (simp; done) | (simp; omega) | assumption))) (F.x_MOST_CELLS rfl))), fun h => ?_, fun h => ?_⟩
  · simp at h; omega
  refine .skip ?_
  refine xss_findIf (l := x) (f := fun c => .s [c]) (test := fun c => !decide (c ∈ 45 :: marksT)) (res := fun c => .b false) (xi_any (xv 0) (by constructor)) (xg1 1 pt_) (fun c hm => ⟨_, putn 1, XT.eq (xt_notInS (xv 1) (F.x_SIGNS rfl)) (by rfl), fun ht => xe_bl, by repeat (first | exact Wk.nil | refine Wk.same ?_ | refine Wk.drop ?_ | refine Wk.shl ?_ | refine Wk.shk ?_)⟩) ?_ ?_
  · intro a ha
    have := List.find?_some ha
    have hm := List.mem_of_find?_eq_some ha
    simp [h3 a hm] at this
  · intro _
    refine xss_one (xs_ret ?_)
    exact xe_bl
theorem sp_agree (F : Wo W) {x y : Tx} (hy : y.length = x.length) : RB W N_agree (defScope (top 14)) 0 (defBody (top 14)) 2 [.s x, .s y] (.b (agreeF x y)) := by
  refine ⟨rfl, _, .rt _, ?_⟩
  show XSs (W.ga N_agree (defScope (top 14)) 0) (defBody (top 14)) [.v (.s x), .v (.s y), .no, .no] _; refine xss_form ?_
  refine xss_findIf (l := x.zip y) (f := fun q : Nat × Nat => .t [.s [q.1], .s [q.2]]) (test := fun q : Nat × Nat => (decide (q.1 ≠ 45) && (decide (q.2 ≠ 45) && decide (q.1 ≠ q.2)))) (res := fun q : Nat × Nat => .b false) (xi_zip F.n_zip (xv 0) (xv 1) (by first | exact ZpD.s _ _ | exact ZpD.t _ _ _ _)) (xg_two 2 3 pt_ pt_) (fun q hm => ⟨_, putt 2 3, XT.eq (XW.xt (xw_and (xt_ne (xv 2) (xe_str (l := [45]) (by decide +kernel)) (by constructor)) (fun hh2 => (xw_and (xt_ne (xv 3) (xe_str (l := [45]) (by decide +kernel)) (by constructor)) (fun hh1 => (xw_and1 (xt_ne (xv 2) (xv 3) (by constructor)))))))) (by simp), fun ht => xe_bl, by repeat (first | exact Wk.nil | refine Wk.same ?_ | refine Wk.drop ?_ | refine Wk.shl ?_ | refine Wk.shk ?_)⟩) ?_ ?_
  · intro a ha
    rw [agree_zip hy.symm, all_found ha]
  · intro h
    rw [agree_zip hy.symm, all_find h]
    refine xss_one (xs_ret ?_)
    exact xe_bl
theorem freedC_cells {x m : Tx} (h : m.length = x.length) : (tab x.length fun k => if k ∈ cellsF m then 45 else at_ x k) = freedF x m := by
  unfold freedF
  refine tab_congr fun k hk => ?_
  by_cases c : at_ m k = 45
  · rw [if_pos c, if_neg (fun z => by simp only [cellsF, List.mem_filter, decide_eq_true_eq] at z; exact z.2 c)]
  · rw [if_neg c, if_pos (by simp only [cellsF, List.mem_filter, List.mem_range]; exact ⟨by omega, by simpa using c⟩)]
theorem sp_peeled (F : Wo W) {x m : Tx} (hx : x.length ≤ 1000) (h : m.length = x.length) : RB W N_peeled (defScope (top 22)) 3 (defBody (top 22)) 2 [.s x, .s m] (.s (freedF x m)) := by
  refine ⟨rfl, _, .rt _, ?_⟩
  show XSs (W.ga N_peeled (defScope (top 22)) 3) (defBody (top 22)) [.v (.s x), .v (.s m)] _; refine xss_form ?_
  refine xss_retX ⟨_, (xe_call F.kn_freed (by dsimp only [Wd.ga, Ga.blk]; decide) (xa_cons (xv 0) (xa_cons (xe_call F.kn_cells_of (by dsimp only [Wd.ga, Ga.blk]; decide) (xa_cons (xv 1) xa_nil) (sp_cells_of F (by omega))) xa_nil)) (sp_freed F (by omega))), ?_⟩
  rw [freedC_cells h]
theorem sp_frees_marks (F : Wo W) {x m : Tx} (hx : x.length ≤ 1000) (h : m.length = x.length) : RB W N_frees_marks (defScope (top 23)) 4 (defBody (top 23)) 2 [.s m, .s x] (.b (freesF m x)) := by
  refine ⟨rfl, _, .rt _, ?_⟩
  show XSs (W.ga N_frees_marks (defScope (top 23)) 4) (defBody (top 23)) [.v (.s m), .v (.s x)] _; refine xss_form ?_
  refine xss_retX ⟨_, (xe_and (xe_call F.kn_agree (by dsimp only [Wd.ga, Ga.blk]; decide) (xa_cons (xv 0) (xa_cons (xv 1) xa_nil)) (sp_agree F (by omega))) (fun hh1 => (xe_bool1 (xe_ne (xe_call F.kn_peeled (by dsimp only [Wd.ga, Ga.blk]; decide) (xa_cons (xv 1) (xa_cons (xv 0) xa_nil)) (sp_peeled F (by omega) (by omega))) (xv 1) (by constructor))))), ?_⟩
  simp [freesF]
theorem sp_first_to_peel (F : Wo W) {L : List Tx} {x : Tx} (hx : x.length ≤ 1000) (h : ∀ m ∈ L, m.length = x.length) : RB W N_first_to_peel (defScope (top 24)) 5 (defBody (top 24)) 2 [.t (L.map .s), .s x] (optD (firstF L x)) := by
  refine ⟨rfl, _, .rt _, ?_⟩
  show XSs (W.ga N_first_to_peel (defScope (top 24)) 5) (defBody (top 24)) [.v (.t (L.map .s)), .v (.s x), .no, .no] _; refine xss_form ?_
  refine xss_findIf (l := (List.range L.length).zip L) (f := fun q : Nat × Tx => .t [.i (q.1 : Int), .s q.2]) (test := fun q : Nat × Tx => freesF q.2 x) (res := fun q : Nat × Tx => .i (q.1 : Int)) (xi_enumM F.n_enumerate (xv 0)) (xg_two 2 3 pt_ pt_) (fun q hm => ⟨_, putt 2 3, XT.eq (xt_val (xe_call F.kn_frees_marks (by dsimp only [Wd.ga, Ga.blk]; decide) (xa_cons (xv 3) (xa_cons (xv 1) xa_nil)) (sp_frees_marks F (by omega) (h _ (List.of_mem_zip hm).2)))) (by rfl), fun ht => (xv 2), by repeat (first | exact Wk.nil | refine Wk.same ?_ | refine Wk.drop ?_ | refine Wk.shl ?_ | refine Wk.shk ?_)⟩) ?_ ?_
  · intro a ha
    unfold firstF
    rw [ha]; rfl
  · intro ha
    unfold firstF
    rw [ha]
    refine xss_one (xs_ret ?_)
    exact xe_non
theorem sp_covers_some (F : Wo W) {x : Tx} {cs : List Nat} (hx : x.length ≤ 1000) (hc : ∀ k ∈ cs, k < x.length) : RB W N_covers_some (defScope (top 28)) 0 (defBody (top 28)) 2 [.s x, .t (natsD cs)] (.b (cs.any fun k => decide (at_ x k ≠ 45))) := by
  refine ⟨rfl, _, .rt _, ?_⟩
  show XSs (W.ga N_covers_some (defScope (top 28)) 0) (defBody (top 28)) [.v (.s x), .v (.t (natsD cs)), .no] _; refine xss_form ?_
  refine xss_findIf (l := cs) (f := fun k : Nat => .i (k : Int)) (test := fun k => decide (at_ x k ≠ 45)) (res := fun k => .b true) (xi_any (xv 1) (by constructor)) (xg1 2 pt_) (fun k hm => have hk := hc k hm; ⟨_, putn 2, XT.eq (xt_ne (xe_ix (xv 0) (xv 2) (by first | exact it2S | exact itS _ rfl (by first | omega | (simp; done) | (simp; omega) | assumption) (by first | omega | (simp; done) | (simp; omega) | assumption) | exact itN _ rfl (by first | omega | (simp; done) | (simp; omega) | assumption) | exact itI _ rfl (by first | omega | (simp; done) | (simp; omega) | assumption) | exact itL _ rfl default (by first | omega | (simp; done) | (simp; omega) | assumption) | exact itT _ rfl default (by first | omega | (simp; done) | (simp; omega) | assumption))) (xe_str (l := [45]) (by decide +kernel)) (by constructor)) (by simp), fun ht => xe_bl, by repeat (first | exact Wk.nil | refine Wk.same ?_ | refine Wk.drop ?_ | refine Wk.shl ?_ | refine Wk.shk ?_)⟩) ?_ ?_
  · intro a ha
    rw [any_found ha]
  · intro ha
    rw [any_find ha]
    refine xss_one (xs_ret ?_)
    exact xe_bl
theorem sp_contradicts (F : Wo W) {x y : Tx} {cs : List Nat} (hx : x.length ≤ 1000) (hy : y.length = x.length) (hc : ∀ k ∈ cs, k < x.length) : RB W N_contradicts (defScope (top 29)) 0 (defBody (top 29)) 3 [.s x, .s y, .t (natsD cs)] (.b (cs.any fun k => decide (at_ x k ≠ 45) && decide (at_ x k ≠ at_ y k))) := by
  refine ⟨rfl, _, .rt _, ?_⟩
  show XSs (W.ga N_contradicts (defScope (top 29)) 0) (defBody (top 29)) [.v (.s x), .v (.s y), .v (.t (natsD cs)), .no] _; refine xss_form ?_
  refine xss_findIf (l := cs) (f := fun k : Nat => .i (k : Int)) (test := fun k => (decide (at_ x k ≠ 45) && decide (at_ x k ≠ at_ y k))) (res := fun k => .b true) (xi_any (xv 2) (by constructor)) (xg1 3 pt_) (fun k hm => have hk := hc k hm; ⟨_, putn 3, XT.eq (XW.xt (xw_and (xt_ne (xe_ix (xv 0) (xv 3) (by first | exact it2S | exact itS _ rfl (by first | omega | (simp; done) | (simp; omega) | assumption) (by first | omega | (simp; done) | (simp; omega) | assumption) | exact itN _ rfl (by first | omega | (simp; done) | (simp; omega) | assumption) | exact itI _ rfl (by first | omega | (simp; done) | (simp; omega) | assumption) | exact itL _ rfl default (by first | omega | (simp; done) | (simp; omega) | assumption) | exact itT _ rfl default (by first | omega | (simp; done) | (simp; omega) | assumption))) (xe_str (l := [45]) (by decide +kernel)) (by constructor)) (fun hh1 => (xw_and1 (xt_ne (xe_ix (xv 0) (xv 3) (by first | exact it2S | exact itS _ rfl (by first | omega | (simp; done) | (simp; omega) | assumption) (by first | omega | (simp; done) | (simp; omega) | assumption) | exact itN _ rfl (by first | omega | (simp; done) | (simp; omega) | assumption) | exact itI _ rfl (by first | omega | (simp; done) | (simp; omega) | assumption) | exact itL _ rfl default (by first | omega | (simp; done) | (simp; omega) | assumption) | exact itT _ rfl default (by first | omega | (simp; done) | (simp; omega) | assumption))) (xe_ix (xv 1) (xv 3) (by first | exact it2S | exact itS _ rfl (by first | omega | (simp; done) | (simp; omega) | assumption) (by first | omega | (simp; done) | (simp; omega) | assumption) | exact itN _ rfl (by first | omega | (simp; done) | (simp; omega) | assumption) | exact itI _ rfl (by first | omega | (simp; done) | (simp; omega) | assumption) | exact itL _ rfl default (by first | omega | (simp; done) | (simp; omega) | assumption) | exact itT _ rfl default (by first | omega | (simp; done) | (simp; omega) | assumption))) (by constructor)))))) (by simp), fun ht => xe_bl, by repeat (first | exact Wk.nil | refine Wk.same ?_ | refine Wk.drop ?_ | refine Wk.shl ?_ | refine Wk.shk ?_)⟩) ?_ ?_
  · intro a ha
    rw [any_found ha]
  · intro ha
    rw [any_find ha]
    refine xss_one (xs_ret ?_)
    exact xe_bl
theorem sp_covers_only (F : Wo W) {x y : Tx} (hy : y.length = x.length) : RB W N_covers_only (defScope (top 42)) 0 (defBody (top 42)) 2 [.s x, .s y] (.b (insideF x y)) := by
  refine ⟨rfl, _, .rt _, ?_⟩
  show XSs (W.ga N_covers_only (defScope (top 42)) 0) (defBody (top 42)) [.v (.s x), .v (.s y), .no, .no] _; refine xss_form ?_
  refine xss_findIf (l := x.zip y) (f := fun q : Nat × Nat => .t [.s [q.1], .s [q.2]]) (test := fun q : Nat × Nat => (decide (q.1 ≠ 45) && decide (q.2 = 45))) (res := fun q : Nat × Nat => .b false) (xi_zip F.n_zip (xv 0) (xv 1) (by first | exact ZpD.s _ _ | exact ZpD.t _ _ _ _)) (xg_two 2 3 pt_ pt_) (fun q hm => ⟨_, putt 2 3, XT.eq (XW.xt (xw_and (xt_ne (xv 2) (xe_str (l := [45]) (by decide +kernel)) (by constructor)) (fun hh1 => (xw_and1 (xt_eq (xv 3) (xe_str (l := [45]) (by decide +kernel)) (by constructor)))))) (by simp), fun ht => xe_bl, by repeat (first | exact Wk.nil | refine Wk.same ?_ | refine Wk.drop ?_ | refine Wk.shl ?_ | refine Wk.shk ?_)⟩) ?_ ?_
  · intro a ha
    rw [inside_zip hy.symm, all_found ha]
  · intro h
    rw [inside_zip hy.symm, all_find h]
    refine xss_one (xs_ret ?_)
    exact xe_bl
theorem sp_comparison_word (F : Wo W) {a b : Option Tx} : RB W N_comparison_word (defScope (top 52)) 0 (defBody (top 52)) 2 [nameD a, nameD b] (.s (wordF a.isSome b.isSome)) := by
  refine ⟨rfl, _, .rt _, ?_⟩
  show XSs (W.ga N_comparison_word (defScope (top 52)) 0) (defBody (top 52)) [.v (nameD a), .v (nameD b)] _; refine xss_form ?_
  refine xss_ifX ⟨_, (xt_isN (xv 0)), fun h => ?_, fun h => ?_⟩
  · refine .ret ?_
    refine xss_retX ⟨_, (xe_iteS (xt_isN (xv 1)) (fun hh1 => (xe_str (l := [97, 108, 105, 107, 101]) (by decide +kernel))) (fun hh1 => (xe_str (l := [105, 110, 115, 105, 100, 101]) (by decide +kernel)))), ?_⟩
    cases a <;> cases b <;> first | rfl | cases h
  refine .skip ?_
  refine xss_retX ⟨_, (xe_iteS (xt_isN (xv 1)) (fun hh1 => (xe_str (l := [97, 114, 111, 117, 110, 100]) (by decide +kernel))) (fun hh1 => (xe_str (l := [97, 112, 97, 114, 116]) (by decide +kernel)))), ?_⟩
  cases a <;> cases b <;> first | rfl | cases h
end
end Q8
namespace Q8
open PySem L2 PyProof.Rows
section
variable {W : Wd}
theorem lay_at {L : List Tx} {n k : Nat} (h : ∀ m ∈ L, m.length = n) (hk : k < L.length) : (L.getD k []).length = n := by
  rw [List.getD_eq_getElem?_getD, List.getElem?_eq_getElem hk]
  exact h _ (List.getElem_mem hk)
theorem peelW_len {L : List Tx} : ∀ (n : Nat) (x : Tx), (peelW L n x).2.length = x.length
  | 0, x => rfl
  | n + 1, x => by
    unfold peelW
    cases firstF L x with
    | none => rfl
    | some k => simp only; rw [peelW_len n, freedF_len]
theorem sp_peel_by (F : Wo W) {L : List Tx} {x : Tx} (hx : x.length ≤ 1000) (h : ∀ m ∈ L, m.length = x.length) : RB W N_peel_by (defScope (top 25)) 6 (defBody (top 25)) 2 [.t (L.map .s), .s x] (.t [.t (natsD (peelF L x).1), .s (peelF L x).2]) := by
  refine ⟨rfl, _, .rt _, ?_⟩
  show XSs (W.ga N_peel_by (defScope (top 25)) 6) (defBody (top 25)) [.v (.t (L.map .s)), .v (.s x), .no, .no, .no] _; refine xss_form ?_
  refine xss_cons (xs_setN 2 (xn_lst xa_nil) pt_ (by simp)) ?_
  refine xss_setX 3 pt_ ⟨_, (xv 1), ?_⟩
  have hr := hx
  have hL := h
  refine xss_setX 4 pt_ ⟨_, (xe_call F.kn_first_to_peel (by dsimp only [Wd.ga, Ga.blk]; decide) (xa_cons (xv 0) (xa_cons (xv 3) xa_nil)) (sp_first_to_peel F hr hL)), ?_⟩
  have key : ∀ (n : Nat) (o : List Nat) (r : Tx), r.length = x.length → marksN r ≤ n → o.length + n ≤ 5000 → Wh (W.ga N_peel_by (defScope (top 25)) 6) (whC (stAt (defBody (top 25)) 3)) (whB (stAt (defBody (top 25)) 3)) [.v (.t (L.map .s)), .v (.s x), .ol (natsD o), .v (.s r), .v (optD (firstF L r))] (.nx [.v (.t (L.map .s)), .v (.s x), .ol (natsD (o ++ (peelW L n r).1)), .v (.s (peelW L n r).2), .v .n]) := by
    intro n
    induction n with
    | zero =>
      intro o r hrl hm ho
      have hn : firstF L r = none := by
        cases hf : firstF L r with
        | none => rfl
        | some k => have := marks_lt (firstF_some hf).2; omega
      rw [hn]
      simp only [peelW, List.append_nil]
      exact .stop (XT.eq (xt_notN (xv 4)) rfl)
    | succ n ih =>
      intro o r hrl hm ho
      have hr : r.length ≤ 1000 := by omega
      cases hf : firstF L r with
      | none =>
        simp only [peelW, hf, List.append_nil]
        exact .stop (XT.eq (xt_notN (xv 4)) rfl)
      | some k =>
        obtain ⟨hk, hfr⟩ := firstF_some hf
        have hlt := marks_lt hfr
        simp only [peelW, hf]
        refine .turn (XT.eq (xt_notN (xv 4)) rfl) ?_ (Wk.refl _) (?_ : Wh _ _ _ [.v (.t (L.map .s)), .v (.s x), .ol (natsD (o ++ [k])), .v (.s (freedF r (L.getD k []))), .v (optD (firstF L (freedF r (L.getD k []))))] _)
        · refine xss_form ?_
          refine xss_cons (xs_append 2 (xv 4) rfl rfl (by first | exact Or.inl rfl | exact Or.inr (Or.inl rfl)) (by simp [natsD]; omega)) ?_
          refine xss_setX 3 pt_ ⟨_, (xe_call F.kn_peeled (by dsimp only [Wd.ga, Ga.blk]; decide) (xa_cons (xv 3) (xa_cons (xe_ix (xv 0) (xv 4) (itT (f := D.s) k rfl [] hk)) xa_nil)) (sp_peeled F hr (by rw [lay_at h hk, hrl]))), ?_⟩
          have hr : (freedF r (L.getD k [])).length ≤ 1000 := by rw [freedF_len]; omega
          have hL : ∀ m ∈ L, m.length = (freedF r (L.getD k [])).length := fun m hm => by rw [freedF_len, hrl]; exact h m hm
          refine xss_setX 4 pt_ ⟨_, (xe_call F.kn_first_to_peel (by dsimp only [Wd.ga, Ga.blk]; decide) (xa_cons (xv 0) (xa_cons (xv 3) xa_nil)) (sp_first_to_peel F hr hL)), ?_⟩
          simp only [List.set_cons_zero, List.set_cons_succ, natsD, List.map_append, List.map_cons, List.map_nil]
          exact xss_nil
        · have := ih (o ++ [k]) (freedF r (L.getD k [])) (by rw [freedF_len]; exact hrl) (by omega) (by simp; omega)
          simpa using this
  refine xss_cons (xs_while (key (x.length + 1) [] x rfl (Nat.le_succ_of_le (marks_le x)) (by simp; omega))) ?_
  refine XSs.weakL (env' := [.v (.t (L.map .s)), .v (.s x), .v (.l (natsD (peelW L (x.length + 1) x).1)), .v (.s (peelW L (x.length + 1) x).2), .v .n]) ?_ (by rw [List.nil_append]; exact (by repeat (first | exact Wk.nil | refine Wk.same ?_ | refine Wk.drop ?_ | refine Wk.shl ?_ | refine Wk.shk ?_)))
  refine xss_one (xs_ret ?_)
  exact (xe_tup (xa_cons (xe_tupleL F.n_tuple (xv 2)) (xa_cons (xv 3) xa_nil)) (by first | omega | (simp; done) | (simp; omega) | assumption))
/-! ### the classes' makings -/
def siShow (W : Wd) : True := trivial
theorem si_Peeling (F : Wo W) {a b c : D} : RI W N_Peeling___init__ (defScope (meth 21 0)) 0 (defBody (meth 21 0)) 4 0 [a, b, c] [a, b, c] := by
  refine ⟨rfl, fun p dx => ⟨[.v a, .v b, .v c], ?_⟩⟩
  show XSs (W.ga N_Peeling___init__ (defScope (meth 21 0)) 0) (defBody (meth 21 0)) [.oi p dx 0 [], .v a, .v b, .v c] _; refine xss_form ?_
  refine xss_cons (xs_fld F.cf0 0 (xv 1) rfl rfl (by first | exact Or.inl rfl | exact Or.inr (Or.inl rfl)) rfl (by decide +kernel) (by decide +kernel)) ?_
  refine xss_cons (xs_fld F.cf0 0 (xv 2) rfl rfl (by first | exact Or.inl rfl | exact Or.inr (Or.inl rfl)) rfl (by decide +kernel) (by decide +kernel)) ?_
  refine xss_cons (xs_fld F.cf0 0 (xv 3) rfl rfl (by first | exact Or.inl rfl | exact Or.inr (Or.inl rfl)) rfl (by decide +kernel) (by decide +kernel)) ?_
  exact xss_nil
theorem si_StampMaking (F : Wo W) {a b c : D} : RI W N_StampMaking___init__ (defScope (meth 41 0)) 0 (defBody (meth 41 0)) 4 2 [a, b, c] [a, b, c] := by
  refine ⟨rfl, fun p dx => ⟨[.v a, .v b, .v c], ?_⟩⟩
  show XSs (W.ga N_StampMaking___init__ (defScope (meth 41 0)) 0) (defBody (meth 41 0)) [.oi p dx 2 [], .v a, .v b, .v c] _; refine xss_form ?_
  refine xss_cons (xs_fld F.cf2 0 (xv 1) rfl rfl (by first | exact Or.inl rfl | exact Or.inr (Or.inl rfl)) rfl (by decide +kernel) (by decide +kernel)) ?_
  refine xss_cons (xs_fld F.cf2 0 (xv 2) rfl rfl (by first | exact Or.inl rfl | exact Or.inr (Or.inl rfl)) rfl (by decide +kernel) (by decide +kernel)) ?_
  refine xss_cons (xs_fld F.cf2 0 (xv 3) rfl rfl (by first | exact Or.inl rfl | exact Or.inr (Or.inl rfl)) rfl (by decide +kernel) (by decide +kernel)) ?_
  exact xss_nil
theorem si_Comparison (F : Wo W) {a b c d e f : D} : RI W N_Comparison___init__ (defScope (meth 47 0)) 0 (defBody (meth 47 0)) 7 3 [a, b, c, d, e, f] [a, b, c, d, e, f] := by
  refine ⟨rfl, fun p dx => ⟨[.v a, .v b, .v c, .v d, .v e, .v f], ?_⟩⟩
  show XSs (W.ga N_Comparison___init__ (defScope (meth 47 0)) 0) (defBody (meth 47 0)) [.oi p dx 3 [], .v a, .v b, .v c, .v d, .v e, .v f] _; refine xss_form ?_
  refine xss_cons (xs_fld F.cf3 0 (xv 1) rfl rfl (by first | exact Or.inl rfl | exact Or.inr (Or.inl rfl)) rfl (by decide +kernel) (by decide +kernel)) ?_
  refine xss_cons (xs_fld F.cf3 0 (xv 2) rfl rfl (by first | exact Or.inl rfl | exact Or.inr (Or.inl rfl)) rfl (by decide +kernel) (by decide +kernel)) ?_
  refine xss_cons (xs_fld F.cf3 0 (xv 3) rfl rfl (by first | exact Or.inl rfl | exact Or.inr (Or.inl rfl)) rfl (by decide +kernel) (by decide +kernel)) ?_
  refine xss_cons (xs_fld F.cf3 0 (xv 4) rfl rfl (by first | exact Or.inl rfl | exact Or.inr (Or.inl rfl)) rfl (by decide +kernel) (by decide +kernel)) ?_
  refine xss_cons (xs_fld F.cf3 0 (xv 5) rfl rfl (by first | exact Or.inl rfl | exact Or.inr (Or.inl rfl)) rfl (by decide +kernel) (by decide +kernel)) ?_
  refine xss_cons (xs_fld F.cf3 0 (xv 6) rfl rfl (by first | exact Or.inl rfl | exact Or.inr (Or.inl rfl)) rfl (by decide +kernel) (by decide +kernel)) ?_
  exact xss_nil
/-! ### frozen -/
def okF : Nat → D → Bool
  | _, .n => true
  | _, .s _ => true
  | _, .i _ => true
  | n + 1, .l xs => decide (xs.length ≤ 1000) && xs.all (okF n)
  | n + 1, .t xs => decide (xs.length ≤ 1000) && xs.all (okF n)
  | _, _ => false
def frz : Nat → D → D
  | n + 1, .l xs => .t (xs.map (frz n))
  | n + 1, .t xs => .t (xs.map (frz n))
  | _, d => d
theorem sp_frozen (F : Wo W) : ∀ (n : Nat) (d : D), okF n d = true → ∀ k, n ≤ k → RB W N_frozen (defScope (top 18)) k (defBody (top 18)) 1 [d] (frz n d) := by
  intro n
  induction n with
  | zero =>
    intro d hd k hk
    refine ⟨rfl, _, .rt _, ?_⟩
    show XSs (W.ga N_frozen (defScope (top 18)) k) (defBody (top 18)) [.v d, .no] _; refine xss_form ?_
    cases d with
    | n =>
      refine xss_ifX ⟨_, (xt_val (xe_isiT F.n_isinstance (xv 0) (xa_cons (xe_bty (n := "list") F.n_list rfl (by decide +kernel)) (xa_cons (xe_bty (n := "tuple") F.n_tuple rfl (by decide +kernel)) xa_nil)) (by constructor) (by first | exact ClDs.cons (.y _) (.cons (.y _) .nil)) (by first | rfl | exact kit_refl _ _) (by first | (intro c ds h; cases h; done) | (intro c ds h; cases h; first | exact F.ci1 | exact F.ci3)))), fun h => ?_, fun h => ?_⟩
      · cases h
      refine .skip ?_
      refine xss_one (xs_ret ?_)
      exact (xv 0)
    | s x =>
      refine xss_ifX ⟨_, (xt_val (xe_isiT F.n_isinstance (xv 0) (xa_cons (xe_bty (n := "list") F.n_list rfl (by decide +kernel)) (xa_cons (xe_bty (n := "tuple") F.n_tuple rfl (by decide +kernel)) xa_nil)) (by constructor) (by first | exact ClDs.cons (.y _) (.cons (.y _) .nil)) (by first | rfl | exact kit_refl _ _) (by first | (intro c ds h; cases h; done) | (intro c ds h; cases h; first | exact F.ci1 | exact F.ci3)))), fun h => ?_, fun h => ?_⟩
      · cases h
      refine .skip ?_
      refine xss_one (xs_ret ?_)
      exact (xv 0)
    | i x =>
      refine xss_ifX ⟨_, (xt_val (xe_isiT F.n_isinstance (xv 0) (xa_cons (xe_bty (n := "list") F.n_list rfl (by decide +kernel)) (xa_cons (xe_bty (n := "tuple") F.n_tuple rfl (by decide +kernel)) xa_nil)) (by constructor) (by first | exact ClDs.cons (.y _) (.cons (.y _) .nil)) (by first | rfl | exact kit_refl _ _) (by first | (intro c ds h; cases h; done) | (intro c ds h; cases h; first | exact F.ci1 | exact F.ci3)))), fun h => ?_, fun h => ?_⟩
      · cases h
      refine .skip ?_
      refine xss_one (xs_ret ?_)
      exact (xv 0)
    | _ => cases hd
  | succ n ih =>
    intro d hd k hk
    refine ⟨rfl, _, .rt _, ?_⟩
    show XSs (W.ga N_frozen (defScope (top 18)) k) (defBody (top 18)) [.v d, .no] _; refine xss_form ?_
    have hk1 : k - 1 + 1 ≤ k := by omega
    cases d with
    | n =>
      refine xss_ifX ⟨_, (xt_val (xe_isiT F.n_isinstance (xv 0) (xa_cons (xe_bty (n := "list") F.n_list rfl (by decide +kernel)) (xa_cons (xe_bty (n := "tuple") F.n_tuple rfl (by decide +kernel)) xa_nil)) (by constructor) (by first | exact ClDs.cons (.y _) (.cons (.y _) .nil)) (by first | rfl | exact kit_refl _ _) (by first | (intro c ds h; cases h; done) | (intro c ds h; cases h; first | exact F.ci1 | exact F.ci3)))), fun h => ?_, fun h => ?_⟩
      · cases h
      refine .skip ?_
      refine xss_one (xs_ret ?_)
      exact (xv 0)
    | s x =>
      refine xss_ifX ⟨_, (xt_val (xe_isiT F.n_isinstance (xv 0) (xa_cons (xe_bty (n := "list") F.n_list rfl (by decide +kernel)) (xa_cons (xe_bty (n := "tuple") F.n_tuple rfl (by decide +kernel)) xa_nil)) (by constructor) (by first | exact ClDs.cons (.y _) (.cons (.y _) .nil)) (by first | rfl | exact kit_refl _ _) (by first | (intro c ds h; cases h; done) | (intro c ds h; cases h; first | exact F.ci1 | exact F.ci3)))), fun h => ?_, fun h => ?_⟩
      · cases h
      refine .skip ?_
      refine xss_one (xs_ret ?_)
      exact (xv 0)
    | i x =>
      refine xss_ifX ⟨_, (xt_val (xe_isiT F.n_isinstance (xv 0) (xa_cons (xe_bty (n := "list") F.n_list rfl (by decide +kernel)) (xa_cons (xe_bty (n := "tuple") F.n_tuple rfl (by decide +kernel)) xa_nil)) (by constructor) (by first | exact ClDs.cons (.y _) (.cons (.y _) .nil)) (by first | rfl | exact kit_refl _ _) (by first | (intro c ds h; cases h; done) | (intro c ds h; cases h; first | exact F.ci1 | exact F.ci3)))), fun h => ?_, fun h => ?_⟩
      · cases h
      refine .skip ?_
      refine xss_one (xs_ret ?_)
      exact (xv 0)
    | l xs =>
      obtain ⟨hz, hd⟩ := Bool.and_eq_true_iff.mp hd
      have hz : xs.length ≤ 1000 := by simpa using hz
      have hd : ∀ a ∈ xs, okF n a = true := List.all_eq_true.mp hd
      rw [← List.map_id xs]
      refine xss_ifX ⟨_, (xt_val (xe_isiT F.n_isinstance (xv 0) (xa_cons (xe_bty (n := "list") F.n_list rfl (by decide +kernel)) (xa_cons (xe_bty (n := "tuple") F.n_tuple rfl (by decide +kernel)) xa_nil)) (by constructor) (by first | exact ClDs.cons (.y _) (.cons (.y _) .nil)) (by first | rfl | exact kit_refl _ _) (by first | (intro c ds h; cases h; done) | (intro c ds h; cases h; first | exact F.ci1 | exact F.ci3)))), fun h => ?_, fun h => ?_⟩
      · refine .ret ?_
        refine xss_retX ⟨_, (xe_tupleL F.n_tuple (xe_lc (own := [("part", 1)]) lc_ (xi_any (xv 0) (by constructor)) (xg1 1 pt_) (by first | (simp [rangeD]; omega) | (simp; omega) | (simp; done)) (comp_map (f := id) (g := frz n) (fun a hm => ⟨_, _, putn 1, (xe_call (F.kn_frozen (k - 1)) hk1 (xa_cons (xv 1) xa_nil) (ih a (hd a hm) (k - 1) (by omega))), rfl⟩)))), ?_⟩
        simp [frz]
      cases h
    | t xs =>
      obtain ⟨hz, hd⟩ := Bool.and_eq_true_iff.mp hd
      have hz : xs.length ≤ 1000 := by simpa using hz
      have hd : ∀ a ∈ xs, okF n a = true := List.all_eq_true.mp hd
      rw [← List.map_id xs]
      refine xss_ifX ⟨_, (xt_val (xe_isiT F.n_isinstance (xv 0) (xa_cons (xe_bty (n := "list") F.n_list rfl (by decide +kernel)) (xa_cons (xe_bty (n := "tuple") F.n_tuple rfl (by decide +kernel)) xa_nil)) (by constructor) (by first | exact ClDs.cons (.y _) (.cons (.y _) .nil)) (by first | rfl | exact kit_refl _ _) (by first | (intro c ds h; cases h; done) | (intro c ds h; cases h; first | exact F.ci1 | exact F.ci3)))), fun h => ?_, fun h => ?_⟩
      · refine .ret ?_
        refine xss_retX ⟨_, (xe_tupleL F.n_tuple (xe_lc (own := [("part", 1)]) lc_ (xi_any (xv 0) (by constructor)) (xg1 1 pt_) (by first | (simp [rangeD]; omega) | (simp; omega) | (simp; done)) (comp_map (f := id) (g := frz n) (fun a hm => ⟨_, _, putn 1, (xe_call (F.kn_frozen (k - 1)) hk1 (xa_cons (xv 1) xa_nil) (ih a (hd a hm) (k - 1) (by omega))), rfl⟩)))), ?_⟩
        simp [frz]
      cases h
    | _ => cases hd
/-! ### names -/
theorem sp_is_name (F : Wo W) {x : Tx} (hx : OkN x) : RB W N_is_name (defScope (top 36)) 2 (defBody (top 36)) 1 [.s x] (.b true) := by
  refine ⟨rfl, _, .rt _, ?_⟩
  show XSs (W.ga N_is_name (defScope (top 36)) 2) (defBody (top 36)) [.v (.s x), .no] _; refine xss_form ?_
  have h1 := hx.lo
  have h2 := hx.hi
  refine xss_ifX ⟨_, (xt_not (xt_val (xe_isi F.n_isinstance (xv 0) (xe_bty (n := "str") F.n_str rfl (by decide +kernel)) (by constructor) (by constructor) (by first | rfl | exact kit_refl _ _) (by first | (intro c ds h; cases h; done) | (intro c ds h; cases h; first | exact F.ci1 | exact F.ci3))))), fun h => ?_, fun h => ?_⟩
  · cases h
  refine .skip ?_
  refine xss_ifX ⟨_, (XW.xt (xw_or (xt_not (xt_chain xe_int (xe_len F.n_len (xv 0) (by first | exact LenD.l _ | exact LenD.t _ | exact LenD.q _ | exact LenD.s _ (by first | omega | (simp; done) | (simp; omega) | assumption))) (F.x_LONGEST_NAME rfl))) (fun hh1 => (xw_or1 (xt_notInS (xe_ix (xv 0) xe_int (itS 0 rfl (by omega) (by omega))) (F.x_LETTERS rfl)))))), fun h => ?_, fun h => ?_⟩
  · have := hx.head
    have h1 : (1 : Int) ≤ (x.length : Int) := by omega
    have h2 : (x.length : Int) ≤ 8 := by omega
    rw [decide_eq_true h1, decide_eq_true h2, decide_eq_true this] at h
    cases h
  refine .skip ?_
  refine xss_findIf (l := x) (f := fun c => .s [c]) (test := fun c => (!decide (c ∈ lettersT) && !decide (c ∈ digitsT))) (res := fun c => .b false) (xi_any (xv 0) (by constructor)) (xg1 1 pt_) (fun c hm => ⟨_, putn 1, XT.eq (XW.xt (xw_and (xt_notInS (xv 1) (F.x_LETTERS rfl)) (fun hh1 => (xw_and1 (xt_notInS (xv 1) (F.x_DIGITS rfl)))))) (by rfl), fun ht => xe_bl, by repeat (first | exact Wk.nil | refine Wk.same ?_ | refine Wk.drop ?_ | refine Wk.shl ?_ | refine Wk.shk ?_)⟩) ?_ ?_
  · intro a ha
    have := List.find?_some ha
    rcases hx.signs a (List.mem_of_find?_eq_some ha) with z | z <;> simp [z] at this
  · intro _
    refine xss_one (xs_ret ?_)
    exact xe_bl
theorem sp_is_stamp (F : Wo W) {x : Tx} {n : Nat} (hx : OkL n x) (h1 : 1 ≤ n) (h2 : n ≤ 30) (h3 : x ≠ blank n) : RB W N_is_stamp (defScope (top 37)) 3 (defBody (top 37)) 2 [.s x, .i (n : Int)] (.b true) := by
  refine ⟨rfl, _, .rt _, ?_⟩
  show XSs (W.ga N_is_stamp (defScope (top 37)) 3) (defBody (top 37)) [.v (.s x), .v (.i (n : Int))] _; refine xss_form ?_
  have hl := hx.len
  refine xss_retX ⟨_, (xe_and (xe_call F.kn_is_layer (by dsimp only [Wd.ga, Ga.blk]; decide) (xa_cons (xv 0) xa_nil) (sp_is_layer F (by omega) (by omega) hx.signs)) (fun hh2 => (xe_and (xe_eq (xe_len F.n_len (xv 0) (by first | exact LenD.l _ | exact LenD.t _ | exact LenD.q _ | exact LenD.s _ (by first | omega | (simp; done) | (simp; omega) | assumption))) (xv 1) (by constructor)) (fun hh1 => (xe_bool1 (xe_ne (xv 0) (xe_call F.kn_empty_layer (by dsimp only [Wd.ga, Ga.blk]; decide) (xa_cons (xv 1) xa_nil) (sp_empty_layer F (by omega))) (by constructor))))))), ?_⟩
  simp [h3, hl]
end
end Q8
namespace Q8
open PySem L2 PyProof.Rows
/-- where a name stands -/
def placeF (st : Sm) (x : Tx) : Option Nat := (namesT st).findIdx? fun y => decide (y = x)
theorem getD_numK (st : Sm) (x : Tx) : (getD (numK st) x).getD .n = optD (placeF st x) := by
  have h := enum_find (fun q : Tx × Tx => decide (q.1 = x)) st
  have e : (numK st).find? (fun kv => decide (kv.1 = x)) = (((List.range st.length).zip st).find? fun q => decide (q.2.1 = x)).map fun q => (q.2.1, .i (q.1 : Int)) := by
    unfold numK
    rw [List.find?_map]; rfl
  unfold getD
  rw [e, h]
  unfold placeF namesT
  rw [List.findIdx?_map]
  show _ = optD (List.findIdx? (fun q => decide (q.1 = x)) st)
  cases h2 : List.findIdx? (fun q : Tx × Tx => decide (q.1 = x)) st with
  | none => rfl
  | some k =>
    obtain ⟨hk, _⟩ := List.findIdx?_eq_some_iff_getElem.mp h2
    simp [List.getElem?_eq_getElem hk, optD]
theorem getD_some (st : Sm) (x : Tx) : (getD (numK st) x).isSome = decide (x ∈ namesT st) := by
  have h := getD_numK st x
  have e2 : (placeF st x).isSome = decide (x ∈ namesT st) := by
    unfold placeF
    rw [List.findIdx?_isSome]
    rw [Bool.eq_iff_iff, List.any_eq_true, decide_eq_true_eq]
    constructor
    · rintro ⟨y, hy, e⟩
      have : y = x := by simpa using e
      exact this ▸ hy
    · exact fun h => ⟨x, h, by simp⟩
  rw [← e2]
  cases h1 : getD (numK st) x with
  | none =>
    rw [h1] at h
    cases h2 : placeF st x with
    | none => rfl
    | some k => rw [h2] at h; cases h
  | some d =>
    cases h2 : placeF st x with
    | none =>
      rw [h1, h2] at h
      have hd : d = .n := h
      subst hd
      have := getD_mem h1
      obtain ⟨y, k, e⟩ := this
      cases e
    | some k => rfl
where
  getD_mem {st : Sm} {x : Tx} {d : D} (h : getD (numK st) x = some d) : ∃ (y : Tx) (k : Nat), d = .i (k : Int) := by
    unfold getD at h
    cases h2 : (numK st).find? fun kv => decide (kv.1 = x) with
    | none => rw [h2] at h; cases h
    | some kv =>
      rw [h2] at h
      have : kv.2 = d := by simpa using h
      subst this
      have hm := List.mem_of_find?_eq_some h2
      unfold numK at hm
      obtain ⟨q, _, rfl⟩ := List.mem_map.mp hm
      exact ⟨[], q.1, rfl⟩
theorem numK_snoc {st : Sm} {i : Nat} (hi : i < st.length) (hn : st[i].1 ∉ namesT (st.take i)) : putD (numK (st.take i)) st[i].1 (.i (i : Int)) = numK (st.take (i + 1)) := by
  have hl : (st.take i).length = i := by simp; omega
  have e1 : st.take (i + 1) = st.take i ++ [st[i]] := by rw [List.take_succ_eq_append_getElem hi]
  have hno : ((numK (st.take i)).any fun kv => decide (kv.1 = st[i].1)) = false := by
    rw [List.any_eq_false]
    intro kv hkv
    unfold numK at hkv
    obtain ⟨q, hq, rfl⟩ := List.mem_map.mp hkv
    have := (List.of_mem_zip hq).2
    simp only [decide_eq_true_eq]
    rintro z
    exact hn (List.mem_map.mpr ⟨q.2, this, z⟩)
  unfold putD
  rw [hno, e1]
  unfold numK
  rw [List.length_append, hl, List.length_singleton, List.range_succ, List.zip_append (by simp [hl]), List.map_append]
  simp
section
variable {W : Wd}
theorem sp_place (F : Wo W) {n : Nat} {st : Sm} {x : Tx} : RB W N_Stock_place (defScope (meth 38 7)) 0 (defBody (meth 38 7)) 2 [stockD n st, .s x] (optD (placeF st x)) := by
  refine ⟨rfl, _, .rt _, ?_⟩
  show XSs (W.ga N_Stock_place (defScope (meth 38 7)) 0) (defBody (meth 38 7)) [.v (stockD n st), .v (.s x)] _; refine xss_form ?_
  refine xss_retX ⟨_, (xe_getK (xe_fld F.cf1 3 (xv 0) rfl rfl) (xv 1) (fun _ _ => ⟨rfl, rfl, rfl, rfl⟩)), ?_⟩
  rw [getD_numK]
theorem sp_names (F : Wo W) {n : Nat} {st : Sm} (hf : st.length ≤ 1000) : RB W N_Stock_names (defScope (meth 38 1)) 0 (defBody (meth 38 1)) 1 [stockD n st] (.t ((namesT st).map .s)) := by
  refine ⟨rfl, _, .rt _, ?_⟩
  show XSs (W.ga N_Stock_names (defScope (meth 38 1)) 0) (defBody (meth 38 1)) [.v (stockD n st), .no] _; refine xss_form ?_
  refine xss_one (xs_ret ?_)
  exact (xe_tupleL F.n_tuple (xe_lc (own := [("pair", 1)]) lc_ (xi_any (xe_fld F.cf1 1 (xv 0) rfl rfl) (by constructor)) (xg1 1 pt_) (by first | (simp [rangeD]; omega) | (simp; omega) | (simp; done)) (comp_mapS (g := fun q : Tx × Tx => q.1) (fun q hm => ⟨_, _, putn 1, (xe_ix (xv 1) xe_int (by first | exact itWT 0 rfl rfl | exact itW 0 rfl rfl | exact itS 0 rfl (by first | omega | (simp; done) | (simp; omega) | assumption) (by first | omega | (simp; done) | (simp; omega) | assumption) | exact itN 0 rfl (by first | omega | (simp; done) | (simp; omega) | assumption) | exact itI 0 rfl (by first | omega | (simp; done) | (simp; omega) | assumption) | exact itL 0 rfl default (by first | omega | (simp; done) | (simp; omega) | assumption) | exact itT 0 rfl default (by first | omega | (simp; done) | (simp; omega) | assumption))), by rfl⟩))))
theorem sp_len (F : Wo W) {n : Nat} {st : Sm} : RB W N_Stock___len__ (defScope (meth 38 2)) 2 (defBody (meth 38 2)) 1 [stockD n st] (.i (st.length : Int)) := by
  refine ⟨rfl, _, .rt _, ?_⟩
  show XSs (W.ga N_Stock___len__ (defScope (meth 38 2)) 2) (defBody (meth 38 2)) [.v (stockD n st)] _; refine xss_form ?_
  refine xss_retX ⟨_, (xe_len F.n_len (xe_fld F.cf1 1 (xv 0) rfl rfl) (by first | exact LenD.l _ | exact LenD.t _ | exact LenD.q _ | exact LenD.s _ (by first | omega | (simp; done) | (simp; omega) | assumption))), ?_⟩
  simp
theorem sp_contains (F : Wo W) {n : Nat} {st : Sm} {x : Tx} : RB W N_Stock___contains__ (defScope (meth 38 3)) 2 (defBody (meth 38 3)) 2 [stockD n st, .s x] (.b (decide (x ∈ namesT st))) := by
  refine ⟨rfl, _, .rt _, ?_⟩
  show XSs (W.ga N_Stock___contains__ (defScope (meth 38 3)) 2) (defBody (meth 38 3)) [.v (stockD n st), .v (.s x)] _; refine xss_form ?_
  refine xss_retX ⟨_, (xe_inK (xv 1) (xe_fld F.cf1 3 (xv 0) rfl rfl)), ?_⟩
  rw [getD_some]
theorem find_idx {α : Type} (p : α → Bool) : ∀ l : List α, l.find? p = (l.findIdx? p).bind fun k => l[k]?
  | [] => rfl
  | a :: l => by
    rw [List.findIdx?_cons]
    cases h : p a with
    | true => rw [List.find?_cons_of_pos h]; rfl
    | false =>
      rw [List.find?_cons_of_neg (by simp [h]), find_idx p l]
      cases l.findIdx? p <;> rfl
theorem look_place {st : Sm} {x y : Tx} (h : lookS st x = some y) : ∃ k, placeF st x = some k ∧ k < (layT st).length ∧ (layT st).getD k [] = y := by
  unfold lookS at h
  rw [find_idx] at h
  have e : placeF st x = st.findIdx? fun q => decide (q.1 = x) := by
    unfold placeF namesT
    rw [List.findIdx?_map]; rfl
  cases h2 : st.findIdx? fun q => decide (q.1 = x) with
  | none => rw [h2] at h; cases h
  | some k =>
    obtain ⟨hk, _⟩ := List.findIdx?_eq_some_iff_getElem.mp h2
    rw [h2] at h
    simp only [Option.bind_some, List.getElem?_eq_getElem hk, Option.map_some, Option.some.injEq] at h
    refine ⟨k, by rw [e, h2], by simpa [layT] using hk, ?_⟩
    rw [List.getD_eq_getElem?_getD, layT, List.getElem?_map, List.getElem?_eq_getElem hk]
    exact h
theorem sp_stamp (F : Wo W) {n : Nat} {st : Sm} {x y : Tx} (h : lookS st x = some y) : RB W N_Stock_stamp (defScope (meth 38 8)) 2 (defBody (meth 38 8)) 2 [stockD n st, .s x] (.s y) := by
  refine ⟨rfl, _, .rt _, ?_⟩
  show XSs (W.ga N_Stock_stamp (defScope (meth 38 8)) 2) (defBody (meth 38 8)) [.v (stockD n st), .v (.s x), .no] _; refine xss_form ?_
  obtain ⟨k, h1, h2, h3⟩ := look_place h
  refine xss_setX 2 pt_ ⟨_, (xe_meth F.cf1 F.km_place (by dsimp only [Wd.ga, Ga.blk]; decide) (xv 0) (xa_cons (xv 1) xa_nil) (sp_place F)), ?_⟩
  rw [h1]
  refine xss_ifX ⟨_, (xt_isN (xv 2)), fun h => ?_, fun h => ?_⟩
  · cases h
  refine .skip ?_
  refine xss_retX ⟨_, (xe_ix (xe_fld F.cf1 2 (xv 0) rfl rfl) (xv 2) (itT (f := D.s) k rfl [] h2)), ?_⟩
  rw [h3]
/-! ### a new stock -/
theorem frz_pair (q : Tx × Tx) : frz 1 (pairT q) = pairT q := rfl
theorem OkS.filter {n : Nat} {st : Sm} (h : OkS n st) (p : Tx × Tx → Bool) : OkS n (st.filter p) :=
  ⟨h.lo, h.hi, fun q hq => h.lay q (List.mem_filter.mp hq).1, fun q hq => h.full q (List.mem_filter.mp hq).1, fun q hq => h.name q (List.mem_filter.mp hq).1,
    by unfold namesT; exact (List.filter_sublist.map _).nodup h.nd, Nat.le_trans (List.length_filter_le _ _) h.few⟩
theorem si_Stock (F : Wo W) {n : Nat} {st : Sm} {sd : D} (hs : OkS n st) (h1 : okF 2 sd = true) (h2 : frz 2 sd = .t (st.map pairT)) : RI W N_Stock___init__ (defScope (meth 38 0)) 4 (defBody (meth 38 0)) 3 1 [.i (n : Int), sd] [.i (n : Int), .t (st.map pairT), .t ((layT st).map .s), .k (numK st)] := by
  refine ⟨rfl, fun p dx => ⟨[.v (.i (n : Int)), .v sd, .v (.t (st.map pairT)), .v (.k (numK st)), .no, .no], ?_⟩⟩
  show XSs (W.ga N_Stock___init__ (defScope (meth 38 0)) 4) (defBody (meth 38 0)) [.oi p dx 1 [], .v (.i (n : Int)), .v sd, .no, .no, .no, .no] _; refine xss_form ?_
  have hfew := hs.few
  refine xss_setX 3 pt_ ⟨_, (XE.eq (xe_call (F.kn_frozen 3) (by dsimp only [Wd.ga, Ga.blk]; decide) (xa_cons (xv 2) xa_nil) (sp_frozen F 2 _ h1 3 (by omega))) h2), ?_⟩
  refine xss_cons (xs_setN 4 xn_dict0 pt_ (by simp)) ?_
  have step : ∀ (i : Nat) (s : List (Tx × D)) (a : Nat × (Tx × Tx)), ((List.range st.length).zip st)[i]? = some a → s = numK (st.take (0 + i)) → ∃ s' e1 e2, s' = numK (st.take (0 + i + 1)) ∧ put2 5 6 [.oi p dx 1 [], .v (.i (n : Int)), .v sd, .v (.t (st.map pairT)), .ok s, .no, .no] (.t [.i (a.1 : Int), pairT a.2]) e1 ∧
      XSs (W.ga N_Stock___init__ (defScope (meth 38 0)) 4) (whB (stAt (defBody (meth 38 0)) 2)) e1 (.nx e2) ∧ Wk e2 [.oi p dx 1 [], .v (.i (n : Int)), .v sd, .v (.t (st.map pairT)), .ok s', .no, .no] := by
    intro i s a ha hi
    obtain ⟨za, zb⟩ := List.getElem?_zip_eq_some.mp ha
    have hlt : i < st.length := (List.getElem?_eq_some_iff.mp zb).1
    have e1 : a.1 = i := by rw [List.getElem?_range hlt] at za; simpa using za.symm
    have e2 : st[i] = a.2 := (List.getElem?_eq_some_iff.mp zb).2
    have hmem : a.2 ∈ st := e2 ▸ List.getElem_mem hlt
    have hnot : a.2.1 ∉ namesT (st.take i) := by
      intro z
      obtain ⟨q, hq, hqe⟩ := List.mem_map.mp z
      obtain ⟨j, hj, rfl⟩ := List.mem_iff_getElem.mp hq
      have hj1 : j < i := by rw [List.length_take] at hj; omega
      have hp := List.pairwise_iff_getElem.mp hs.nd j i (by simp [namesT]; omega) (by simp [namesT]; omega) hj1
      apply hp
      simp only [namesT, List.getElem_map]
      rw [e2, ← hqe, List.getElem_take]
    rw [Nat.zero_add] at hi ⊢
    subst hi
    have hget : (getD (numK (st.take i)) a.2.1).isSome = false := by rw [getD_some]; simpa using hnot
    have hlen : (numK (st.take i)).length < 16777216 := by simp [numK]; omega
    refine ⟨numK (st.take (i + 1)), _, [.oi p dx 1 [], .v (.i (n : Int)), .v sd, .v (.t (st.map pairT)), .ok (numK (st.take (i + 1))), .v (.i (a.1 : Int)), .v (pairT a.2)], rfl, ⟨by simp, by simp, _, _, rfl, rfl⟩, ?_, by repeat (first | exact Wk.nil | refine Wk.same ?_ | refine Wk.drop ?_ | refine Wk.shl ?_ | refine Wk.shk ?_)⟩
    refine xss_form ?_
    refine xss_ifX ⟨_, (xt_not (xt_val (xe_call F.kn_is_name (by dsimp only [Wd.ga, Ga.blk]; decide) (xa_cons (xe_ix (xv 6) xe_int (by first | exact itWT 0 rfl rfl | exact itW 0 rfl rfl | exact itS 0 rfl (by first | omega | (simp; done) | (simp; omega) | assumption) (by first | omega | (simp; done) | (simp; omega) | assumption) | exact itN 0 rfl (by first | omega | (simp; done) | (simp; omega) | assumption) | exact itI 0 rfl (by first | omega | (simp; done) | (simp; omega) | assumption) | exact itL 0 rfl default (by first | omega | (simp; done) | (simp; omega) | assumption) | exact itT 0 rfl default (by first | omega | (simp; done) | (simp; omega) | assumption))) xa_nil) (sp_is_name F (hs.name _ hmem))))), fun h => ?_, fun h => ?_⟩
    · cases h
    refine .skip ?_
    refine xss_ifX ⟨_, (xt_not (xt_val (xe_call F.kn_is_stamp (by dsimp only [Wd.ga, Ga.blk]; decide) (xa_cons (xe_ix (xv 6) xe_int (by first | exact itWT 1 rfl rfl | exact itW 1 rfl rfl | exact itS 1 rfl (by first | omega | (simp; done) | (simp; omega) | assumption) (by first | omega | (simp; done) | (simp; omega) | assumption) | exact itN 1 rfl (by first | omega | (simp; done) | (simp; omega) | assumption) | exact itI 1 rfl (by first | omega | (simp; done) | (simp; omega) | assumption) | exact itL 1 rfl default (by first | omega | (simp; done) | (simp; omega) | assumption) | exact itT 1 rfl default (by first | omega | (simp; done) | (simp; omega) | assumption))) (xa_cons (xv 1) xa_nil)) (sp_is_stamp F (hs.lay _ hmem) hs.lo hs.hi (hs.full _ hmem))))), fun h => ?_, fun h => ?_⟩
    · cases h
    refine .skip ?_
    refine xss_ifX ⟨_, (xt_view 4 rfl rfl (xt_inK (xe_ix (xv 6) xe_int (itWT 0 rfl rfl)) (xv 4))), fun h => ?_, fun h => ?_⟩
    · rw [hget] at h; cases h
    refine .skip ?_
    refine xss_cons (xs_putK 4 (xv 5) (xe_ix (xv 6) xe_int (by first | exact itWT 0 rfl rfl | exact itW 0 rfl rfl | exact itS 0 rfl (by first | omega | (simp; done) | (simp; omega) | assumption) (by first | omega | (simp; done) | (simp; omega) | assumption) | exact itN 0 rfl (by first | omega | (simp; done) | (simp; omega) | assumption) | exact itI 0 rfl (by first | omega | (simp; done) | (simp; omega) | assumption) | exact itL 0 rfl default (by first | omega | (simp; done) | (simp; omega) | assumption) | exact itT 0 rfl default (by first | omega | (simp; done) | (simp; omega) | assumption))) rfl rfl (by first | exact Or.inl rfl | exact Or.inr (Or.inl rfl)) hlen (by decide +kernel) (by decide +kernel)) ?_
    have e3 := numK_snoc hlt (by rw [e2]; exact hnot)
    rw [e2, ← e1] at e3
    rw [e1] at e3
    simp only [List.set_cons_zero, List.set_cons_succ]
    rw [show putD (numK (st.take i)) a.2.1 (.i (a.1 : Int)) = numK (st.take (i + 1)) by rw [e1]; exact e3]
    exact xss_nil
  obtain ⟨s', hs', hloop⟩ := loop_ex (Γ := W.ga N_Stock___init__ (defScope (meth 38 0)) 4) (f := fun q : Nat × (Tx × Tx) => .t [.i (q.1 : Int), pairT q.2]) (E := fun s => [.oi p dx 1 [], .v (.i (n : Int)), .v sd, .v (.t (st.map pairT)), .ok s, .no, .no]) (fun i s => s = numK (st.take i)) 0 (numK (st.take 0)) step rfl
  have e0 : numK (st.take 0) = [] := rfl
  have e9 : s' = numK st := by
    rw [hs']
    congr 1
    rw [List.take_of_length_le]
    simp
  rw [e9, e0] at hloop
  refine xss_for (xi_enumM F.n_enumerate (xv 3)) (xg_two 5 6 pt_ pt_) (.inl ⟨_, hloop, ?_⟩)
  refine xss_cons (xs_fld F.cf1 0 (xv 1) rfl rfl (by first | exact Or.inl rfl | exact Or.inr (Or.inl rfl)) rfl (by decide +kernel) (by decide +kernel)) ?_
  refine xss_cons (xs_fld F.cf1 0 (xv 3) rfl rfl (by first | exact Or.inl rfl | exact Or.inr (Or.inl rfl)) rfl (by decide +kernel) (by decide +kernel)) ?_
  refine xss_cons (xs_fld F.cf1 0 (xe_tupleL F.n_tuple (xe_lc (own := [("pair", 6)]) lc_ (xi_any (xv 3) (by constructor)) (xg1 6 pt_) (by first | (simp [rangeD]; omega) | (simp; omega) | (simp; done)) (comp_mapS (g := fun q : Tx × Tx => q.2) (fun q hm => ⟨_, _, putn 6, (xe_ix (xv 6) xe_int (by first | exact itWT 1 rfl rfl | exact itW 1 rfl rfl | exact itS 1 rfl (by first | omega | (simp; done) | (simp; omega) | assumption) (by first | omega | (simp; done) | (simp; omega) | assumption) | exact itN 1 rfl (by first | omega | (simp; done) | (simp; omega) | assumption) | exact itI 1 rfl (by first | omega | (simp; done) | (simp; omega) | assumption) | exact itL 1 rfl default (by first | omega | (simp; done) | (simp; omega) | assumption) | exact itT 1 rfl default (by first | omega | (simp; done) | (simp; omega) | assumption))), by rfl⟩)))) rfl rfl (by first | exact Or.inl rfl | exact Or.inr (Or.inl rfl)) rfl (by decide +kernel) (by decide +kernel)) ?_
  refine XSs.weakL (env' := [.oi p dx 1 [.i (n : Int), .t (st.map pairT), .t ((layT st).map .s)], .v (.i (n : Int)), .v sd, .v (.t (st.map pairT)), .v (.k (numK st)), .no, .no]) ?_ (by repeat (first | exact Wk.nil | refine Wk.same ?_ | refine Wk.drop ?_ | refine Wk.shl ?_ | refine Wk.shk ?_))
  refine xss_cons (xs_fld F.cf1 0 (xv 4) rfl rfl (by first | exact Or.inl rfl | exact Or.inr (Or.inl rfl)) rfl (by decide +kernel) (by decide +kernel)) ?_
  exact xss_nil
end
end Q8
namespace Q8
open PySem L2 PyProof.Rows
theorem placeF_some {st : Sm} {x : Tx} (h : x ∈ namesT st) : ∃ k, placeF st x = some k ∧ k < st.length := by
  have : (placeF st x).isSome = true := by
    unfold placeF
    rw [List.findIdx?_isSome, List.any_eq_true]
    exact ⟨x, h, by simp⟩
  obtain ⟨k, hk⟩ := Option.isSome_iff_exists.mp this
  refine ⟨k, hk, ?_⟩
  unfold placeF at hk
  obtain ⟨h1, _⟩ := List.findIdx?_eq_some_iff_getElem.mp hk
  simpa [namesT] using h1
theorem okF_names {l : List Tx} (h : l.length ≤ 1000) : okF 1 (.t (l.map .s)) = true := by
  simp only [okF, List.length_map, decide_eq_true h, Bool.true_and, List.all_eq_true]
  intro a ha
  obtain ⟨x, _, rfl⟩ := List.mem_map.mp ha
  rfl
theorem frz_names (l : List Tx) : frz 1 (.t (l.map .s)) = .t (l.map .s) := by
  simp only [frz, List.map_map]; rfl
theorem okF_pairs {l : Sm} (h : l.length ≤ 1000) : okF 2 (.l (l.map pairT)) = true := by
  simp only [okF, List.length_map, decide_eq_true h, Bool.true_and, List.all_eq_true]
  intro a ha
  obtain ⟨x, _, rfl⟩ := List.mem_map.mp ha
  rfl
theorem frz_pairs (l : Sm) : frz 2 (.l (l.map pairT)) = .t (l.map pairT) := by
  simp only [frz, List.map_map]; rfl
theorem peelW_mem {L : List Tx} : ∀ (n : Nat) (x : Tx), ∀ k ∈ (peelW L n x).1, k < L.length
  | 0, x, k, h => by cases h
  | n + 1, x, k, h => by
    unfold peelW at h
    cases hf : firstF L x with
    | none => rw [hf] at h; cases h
    | some j =>
      rw [hf] at h
      rcases List.mem_cons.mp h with rfl | h
      · exact (firstF_some hf).1
      · exact peelW_mem n _ k h
theorem peelF_mem {L : List Tx} {x : Tx} {k : Nat} (h : k ∈ (peelF L x).1) : k < L.length := peelW_mem _ _ _ h
theorem peelF_len {L : List Tx} {x : Tx} : (peelF L x).2.length = x.length := peelW_len _ _
theorem peelW_few {L : List Tx} : ∀ (n : Nat) (x : Tx), (peelW L n x).1.length ≤ n
  | 0, x => by simp [peelW]
  | n + 1, x => by
    unfold peelW
    cases hf : firstF L x with
    | none => simp
    | some j => have := peelW_few (L := L) n (freedF x (L.getD j [])); simp only [List.length_cons]; omega
theorem peelF_few {L : List Tx} {x : Tx} : (peelF L x).1.length ≤ x.length + 1 := peelW_few _ _
def peelingD (st : Sm) (x : Tx) : D := .o 0 [.s x, .t ((peelS st x).1.map .s), .s (peelS st x).2]
def makingD (m : Option (List Tx) × List Nat) : D := .o 2 [.b m.1.isSome, rowD m.1, .t (natsD m.2)]
section
variable {W : Wd}
theorem sp_known_names (F : Wo W) {n : Nat} {st : Sm} {r : List Tx} (hr : r.length ≤ 1000) (ha : ∀ x ∈ r, x ∈ namesT st) : RB W N_known_names (defScope (top 39)) 4 (defBody (top 39)) 2 [stockD n st, .t (r.map .s)] (.t (r.map .s)) := by
  refine ⟨rfl, _, .rt _, ?_⟩
  show XSs (W.ga N_known_names (defScope (top 39)) 4) (defBody (top 39)) [.v (stockD n st), .v (.t (r.map .s)), .no, .no] _; refine xss_form ?_
  refine xss_setX 2 pt_ ⟨_, (XE.eq (xe_call (F.kn_frozen 3) (by dsimp only [Wd.ga, Ga.blk]; decide) (xa_cons (xv 1) xa_nil) (sp_frozen F 1 _ (okF_names hr) 3 (by omega))) (frz_names r)), ?_⟩
  refine xss_pass (xi_any (xv 2) (by constructor)) (xg1 3 pt_) (fun x hx => ?_) ?_
  · obtain ⟨k, hk, _⟩ := placeF_some (ha x hx)
    refine ⟨_, [.v (stockD n st), .v (.t (r.map .s)), .v (.t (r.map .s)), .v (.s x)], putn 3, ?_, by repeat (first | exact Wk.nil | refine Wk.same ?_ | refine Wk.drop ?_ | refine Wk.shl ?_ | refine Wk.shk ?_)⟩
    refine xss_ifX ⟨_, (xt_isN (xe_meth F.cf1 F.km_place (by dsimp only [Wd.ga, Ga.blk]; decide) (xv 0) (xa_cons (xv 3) xa_nil) (sp_place F))), fun h => ?_, fun h => ?_⟩
    · rw [hk] at h; cases h
    exact .skip xss_nil
  refine xss_one (xs_ret ?_)
  exact (xv 2)
theorem sp_cell_set (F : Wo W) {ns : List Int} (hl : ns.length < 60) (hp : ns.Pairwise (· < ·)) : RB W N_cell_set (defScope (top 19)) 0 (defBody (top 19)) 1 [.t (ns.map .i)] (.t (ns.map .i)) := by
  refine ⟨rfl, _, .rt _, ?_⟩
  show XSs (W.ga N_cell_set (defScope (top 19)) 0) (defBody (top 19)) [.v (.t (ns.map .i))] _; refine xss_form ?_
  refine xss_one (xs_ret ?_)
  exact (xe_tupleL F.n_tuple (xe_sortedSet F.n_sorted F.n_set (xv 0) hl hp))
theorem natsD_eq (cs : List Nat) : natsD cs = (cs.map fun k : Nat => (k : Int)).map .i := by simp [natsD]
theorem sp_fast_for (F : Wo W) {L : List Tx} {y : Tx} {cs : List Nat} (hy : y.length ≤ 1000) (hL : ∀ x ∈ L, x.length = y.length) (hl : cs.length < 60) (hp : cs.Pairwise (· < ·)) (hlt : ∀ k ∈ cs, k < y.length) (hm1 : ∀ k ∈ cs, at_ y k ≠ 45)
    (hm2 : ∀ x ∈ L, (∃ k ∈ cs, at_ x k ≠ 45) → ∃ k ∈ cs, at_ x k ≠ 45 ∧ at_ x k ≠ at_ y k) : RB W N_fast_for (defScope (top 30)) 1 (defBody (top 30)) 3 [.t (L.map .s), .s y, .t (natsD cs)] (.b true) := by
  refine ⟨rfl, _, .rt _, ?_⟩
  show XSs (W.ga N_fast_for (defScope (top 30)) 1) (defBody (top 30)) [.v (.t (L.map .s)), .v (.s y), .v (.t (natsD cs)), .no, .no, .no] _; refine xss_form ?_
  have hp' : (cs.map fun k : Nat => (k : Int)).Pairwise (· < ·) := by
    rw [List.pairwise_map]
    exact hp.imp fun h => by omega
  refine xss_setX 3 pt_ ⟨_, (XE.eq (xe_call F.kn_cell_set (by dsimp only [Wd.ga, Ga.blk]; decide) (xa_cons (XE.eq (xv 2) (by rw [natsD_eq])) xa_nil) (sp_cell_set F (by simp; omega) hp')) (by rw [← natsD_eq])), ?_⟩
  refine xss_findIf (l := cs) (f := fun k : Nat => .i (k : Int)) (test := fun k => decide (at_ y k = 45)) (res := fun k => .b false) (xi_any (xv 3) (by constructor)) (xg1 4 pt_) (fun k hm => have hk := hlt k hm; ⟨_, putn 4, XT.eq (xt_eq (xe_ix (xv 1) (xv 4) (by first | exact it2S | exact itS _ rfl (by first | omega | (simp; done) | (simp; omega) | assumption) (by first | omega | (simp; done) | (simp; omega) | assumption) | exact itN _ rfl (by first | omega | (simp; done) | (simp; omega) | assumption) | exact itI _ rfl (by first | omega | (simp; done) | (simp; omega) | assumption) | exact itL _ rfl default (by first | omega | (simp; done) | (simp; omega) | assumption) | exact itT _ rfl default (by first | omega | (simp; done) | (simp; omega) | assumption))) (xe_str (l := [45]) (by decide +kernel)) (by constructor)) (by simp), fun ht => xe_bl, by repeat (first | exact Wk.nil | refine Wk.same ?_ | refine Wk.drop ?_ | refine Wk.shl ?_ | refine Wk.shk ?_)⟩) ?_ ?_
  · intro k hk
    have := List.find?_some hk
    exact absurd (by simpa using this) (hm1 k (List.mem_of_find?_eq_some hk))
  · intro _
    refine xss_findIf (l := L) (f := fun x => .s x) (test := fun x => ((cs.any fun k => decide (at_ x k ≠ 45)) && !(cs.any fun k => decide (at_ x k ≠ 45) && decide (at_ x k ≠ at_ y k)))) (res := fun x => .b false) (xi_any (xv 0) (by constructor)) (xg1 5 pt_) (fun x hm => ⟨_, putn 5, XT.eq (XW.xt (xw_and (xt_val (xe_call F.kn_covers_some (by dsimp only [Wd.ga, Ga.blk]; decide) (xa_cons (xv 5) (xa_cons (xv 3) xa_nil)) (sp_covers_some F (by rw [hL x hm]; omega) (by rw [hL x hm]; exact hlt)))) (fun hh1 => (xw_and1 (xt_not (xt_val (xe_call F.kn_contradicts (by dsimp only [Wd.ga, Ga.blk]; decide) (xa_cons (xv 5) (xa_cons (xv 1) (xa_cons (xv 3) xa_nil))) (sp_contradicts F (by rw [hL x hm]; omega) (by rw [hL x hm]) (by rw [hL x hm]; exact hlt))))))))) (by rfl), fun ht => xe_bl, by repeat (first | exact Wk.nil | refine Wk.same ?_ | refine Wk.drop ?_ | refine Wk.shl ?_ | refine Wk.shk ?_)⟩) ?_ ?_
    · intro x hx
      have h1 := List.find?_some hx
      have hmem := List.mem_of_find?_eq_some hx
      rw [Bool.and_eq_true_iff] at h1
      obtain ⟨h1, h2⟩ := h1
      obtain ⟨k, hk, hk2⟩ := List.any_eq_true.mp h1
      obtain ⟨j, hj, hj2, hj3⟩ := hm2 x hmem ⟨k, hk, by simpa using hk2⟩
      have : (cs.any fun k => decide (at_ x k ≠ 45) && decide (at_ x k ≠ at_ y k)) = true := List.any_eq_true.mpr ⟨j, hj, by simp only [Bool.and_eq_true, decide_eq_true_eq]; exact ⟨hj2, hj3⟩⟩
      rw [this] at h2
      cases h2
    · intro _
      refine xss_one (xs_ret ?_)
      exact xe_bl
theorem sp_is_fast (F : Wo W) {n : Nat} {st : Sm} {y : Tx} {cs : List Nat} (hy : y.length ≤ 1000) (hL : ∀ x ∈ layT st, x.length = y.length) (hl : cs.length < 60) (hp : cs.Pairwise (· < ·)) (hlt : ∀ k ∈ cs, k < y.length) (hm1 : ∀ k ∈ cs, at_ y k ≠ 45)
    (hm2 : ∀ x ∈ layT st, (∃ k ∈ cs, at_ x k ≠ 45) → ∃ k ∈ cs, at_ x k ≠ 45 ∧ at_ x k ≠ at_ y k) : RB W N_is_fast (defScope (top 31)) 2 (defBody (top 31)) 3 [stockD n st, .s y, .t (natsD cs)] (.b true) := by
  refine ⟨rfl, _, .rt _, ?_⟩
  show XSs (W.ga N_is_fast (defScope (top 31)) 2) (defBody (top 31)) [.v (stockD n st), .v (.s y), .v (.t (natsD cs))] _; refine xss_form ?_
  refine xss_one (xs_ret ?_)
  exact (xe_call F.kn_fast_for (by dsimp only [Wd.ga, Ga.blk]; decide) (xa_cons (xe_fld F.cf1 2 (xv 0) rfl rfl) (xa_cons (xv 1) (xa_cons (xv 2) xa_nil))) (sp_fast_for F hy hL hl hp hlt hm1 hm2))
theorem lay_len {n : Nat} {st : Sm} (h : OkS n st) : ∀ x ∈ layT st, x.length = n := by
  intro x hx
  obtain ⟨q, hq, rfl⟩ := List.mem_map.mp hx
  exact (h.lay q hq).len
/-! ### inner stocks -/
theorem sp_inner_stock (F : Wo W) {n : Nat} {st : Sm} {x : Tx} (hs : OkS n st) (hx : x.length = n) : RB W N_inner_stock (defScope (top 43)) 6 (defBody (top 43)) 2 [stockD n st, .s x] (stockD n (innerS st x)) := by
  refine ⟨rfl, _, .rt _, ?_⟩
  show XSs (W.ga N_inner_stock (defScope (top 43)) 6) (defBody (top 43)) [.v (stockD n st), .v (.s x), .no] _; refine xss_form ?_
  have hfew := hs.few
  refine xss_one (xs_ret ?_)
  exact (xe_make F.ki_Stock (by dsimp only [Wd.ga, Ga.blk]; decide) (xa_cons (xe_fld F.cf1 0 (xv 0) rfl rfl) (xa_cons (xe_lc (own := [("pair", 2)]) lc_ (xi_any (xe_fld F.cf1 1 (xv 0) rfl rfl) (by constructor)) (xg1 2 pt_) (by first | (simp [rangeD]; omega) | (simp; omega) | (simp; done)) (comp_filter (g := pairT) (t := fun q => insideF q.2 x) (fun q hm => have hq := (hs.lay q hm).len; ⟨_, putn 2, XT.eq (xt_val (xe_call F.kn_covers_only (by dsimp only [Wd.ga, Ga.blk]; decide) (xa_cons (xe_ix (xv 2) xe_int (by first | exact itWT 1 rfl rfl | exact itW 1 rfl rfl | exact itS 1 rfl (by first | omega | (simp; done) | (simp; omega) | assumption) (by first | omega | (simp; done) | (simp; omega) | assumption) | exact itN 1 rfl (by first | omega | (simp; done) | (simp; omega) | assumption) | exact itI 1 rfl (by first | omega | (simp; done) | (simp; omega) | assumption) | exact itL 1 rfl default (by first | omega | (simp; done) | (simp; omega) | assumption) | exact itT 1 rfl default (by first | omega | (simp; done) | (simp; omega) | assumption))) (xa_cons (xv 1) xa_nil)) (sp_covers_only F (by omega)))) (by rfl), fun hf => ⟨_, (xv 2), by rfl⟩⟩))) xa_nil)) (si_Stock F (hs.filter _) (okF_pairs (Nat.le_trans (hs.filter _).few (by omega))) (frz_pairs _)))
theorem sp_peeling (F : Wo W) {n : Nat} {st : Sm} {x : Tx} (hs : OkS n st) (hx : x.length = n) : RB W N_peeling (defScope (top 26)) 7 (defBody (top 26)) 2 [stockD n st, .s x] (peelingD st x) := by
  refine ⟨rfl, _, .rt _, ?_⟩
  show XSs (W.ga N_peeling (defScope (top 26)) 7) (defBody (top 26)) [.v (stockD n st), .v (.s x), .no, .no, .no, .no] _; refine xss_form ?_
  have hfew := hs.few
  have hnn := hs.hi
  have hof := peelF_few (L := layT st) (x := x)
  refine xss_cons (xs_unpack (is := [2, 3]) (xe_call F.kn_peel_by (by dsimp only [Wd.ga, Ga.blk]; decide) (xa_cons (xe_fld F.cf1 2 (xv 0) rfl rfl) (xa_cons (xv 1) xa_nil)) (sp_peel_by F (by omega) (fun m hm => by rw [lay_len hs m hm, hx]))) (.cons pt_ (.cons pt_ .nil)) rfl) ?_
  simp only [setAll]
  refine xss_setX 4 pt_ ⟨_, (xe_prop F.cf1 F.kp_names (by dsimp only [Wd.ga, Ga.blk]; decide) (xv 0) (sp_names F (by first | omega | (simp; done) | (simp; omega) | assumption))), ?_⟩
  refine xss_one (xs_ret ?_)
  exact (xe_make F.ki_Peeling (by dsimp only [Wd.ga, Ga.blk]; decide) (xa_cons (xv 1) (xa_cons (xe_tupleL F.n_tuple (xe_lc (own := [("number", 5)]) lc_ (xi_any (xv 2) (by constructor)) (xg1 5 pt_) (by first | (simp [rangeD]; omega) | (simp; omega) | (simp; done)) (comp_mapS (g := fun k => (namesT st).getD k []) (fun k hm => have hk : k < (namesT st).length := (by have := peelF_mem hm; simpa [namesT, layT] using this); ⟨_, _, putn 5, (xe_ix (xv 4) (xv 5) (itT (f := D.s) k rfl [] hk)), by rfl⟩)))) (xa_cons (xv 3) xa_nil))) (si_Peeling F))
theorem sp_stamp_making (F : Wo W) {n : Nat} {st : Sm} {x : Tx} (hs : OkS n st) (hx : x.length = n) : RB W N_stamp_making (defScope (top 44)) 8 (defBody (top 44)) 2 [stockD n st, .s x] (makingD (madeF st x)) := by
  refine ⟨rfl, _, .rt _, ?_⟩
  show XSs (W.ga N_stamp_making (defScope (top 44)) 8) (defBody (top 44)) [.v (stockD n st), .v (.s x), .no, .no] _; refine xss_form ?_
  have hn := hs.hi
  have hlen : (peelS (innerS st x) x).2.length = n := by rw [← hx]; exact peelF_len
  refine xss_setX 2 pt_ ⟨_, (xe_call F.kn_peeling (by dsimp only [Wd.ga, Ga.blk]; decide) (xa_cons (xe_call F.kn_inner_stock (by dsimp only [Wd.ga, Ga.blk]; decide) (xa_cons (xv 0) (xa_cons (xv 1) xa_nil)) (sp_inner_stock F hs hx)) (xa_cons (xv 1) xa_nil)) (sp_peeling F (hs.filter _) hx)), ?_⟩
  refine xss_setX 3 pt_ ⟨_, (xe_call F.kn_cells_of (by dsimp only [Wd.ga, Ga.blk]; decide) (xa_cons (xe_fld F.cf0 2 (xv 2) rfl rfl) xa_nil) (sp_cells_of F (by rw [hlen]; omega))), ?_⟩
  refine xss_ifX ⟨_, (XT.eq (xt_eq0 (ns := (cellsF (peelS (innerS st x) x).2).map fun k : Nat => (k : Int)) (XE.eq (xv 3) (by rw [← natsD_eq]; rfl)) (xe_tup xa_nil)) (u := decide (cellsF (peelS (innerS st x) x).2 = [])) (by simp)), fun h => ?_, fun h => ?_⟩
  · refine .ret ?_
    have h := of_decide_eq_true h
    refine xss_retX ⟨_, (xe_make F.ki_StampMaking (by dsimp only [Wd.ga, Ga.blk]; decide) (xa_cons xe_bl (xa_cons (xe_revT (xe_fld F.cf0 1 (xv 2) rfl rfl)) (xa_cons (xe_tup xa_nil (by first | omega | (simp; done) | (simp; omega) | assumption)) xa_nil))) (si_StampMaking F)), ?_⟩
    simp [makingD, madeF, h, rowD, natsD]
  refine .skip ?_
  have h := of_decide_eq_false h
  refine xss_retX ⟨_, (xe_make F.ki_StampMaking (by dsimp only [Wd.ga, Ga.blk]; decide) (xa_cons xe_bl (xa_cons xe_non (xa_cons (xv 3) xa_nil))) (si_StampMaking F)), ?_⟩
  simp [makingD, madeF, h, rowD, natsD]
end
end Q8
namespace Q8
open PySem L2 PyProof.Rows
/-- a strange mark is left at cell k -/
def Free (L : List Tx) (k : Nat) : Prop := ∃ m ∈ marksT, m ∉ L.map fun x => at_ x k
theorem free_pos {L : List Tx} {k : Nat} (h : Free L k) : 0 < (marksT.reverse.filter fun m => decide (m ∉ L.map fun x => at_ x k)).length := by
  obtain ⟨m, h1, h2⟩ := h
  exact List.length_pos_of_mem (List.mem_filter.mpr ⟨List.mem_reverse.mpr h1, by simpa using h2⟩)
theorem strangeM_mem {L : List Tx} {k : Nat} (h : Free L k) : strangeM L k ∈ marksT ∧ strangeM L k ∉ L.map fun x => at_ x k := by
  have hp := free_pos h
  have hm : strangeM L k ∈ marksT.reverse.filter fun m => decide (m ∉ L.map fun x => at_ x k) := by
    unfold strangeM
    rw [List.getD_eq_getElem?_getD, List.getElem?_eq_getElem hp]
    exact List.getElem_mem hp
  obtain ⟨h1, h2⟩ := List.mem_filter.mp hm
  exact ⟨List.mem_reverse.mp h1, by simpa using h2⟩
theorem one_mem (m : Nat) (L : List Nat) : decide ([m] ∈ L.map fun c => [c]) = decide (m ∈ L) := by
  apply decide_eq_decide.mpr
  simp
theorem not_one (m k : Nat) (L : List Tx) : (!decide ([m] ∈ L.map fun x => [at_ x k])) = decide (m ∉ L.map fun x => at_ x k) := by
  have := one_mem m (L.map fun x => at_ x k)
  rw [List.map_map, show (fun c => [c]) ∘ (fun x => at_ x k) = fun x => [at_ x k] from rfl] at this
  rw [this, decide_not]
def missA (a b : Sm) : Option Tx := missF a (rowsF b a)
def wordC (a b : Sm) : Tx := wordF (missA a b).isSome (missA b a).isSome
def aliveT : Tx := [97, 108, 105, 107, 101]
def sheetC (n : Nat) (a b : Sm) : Option Tx := if wordC a b = aliveT then none else some (strangeF n (layT a ++ layT b))
def compD (n : Nat) (a b : Sm) : D := .o 3 [.s (wordC a b), .t ((rowsF b a).map rowD), .t ((rowsF a b).map rowD), nameD (missA a b), nameD (missA b a), nameD (sheetC n a b)]
section
variable {W : Wd}
theorem sp_strange_mark (F : Wo W) {n k : Nat} {L : List Tx} (hn : n ≤ 30) (hL : ∀ x ∈ L, x.length = n) (hk : k < n) (hl : L.length ≤ 1000) (hf : Free L k) : RB W N_strange_mark (defScope (top 48)) 2 (defBody (top 48)) 2 [.t (L.map .s), .i (k : Int)] (.s [strangeM L k]) := by
  refine ⟨rfl, _, .rt _, ?_⟩
  show XSs (W.ga N_strange_mark (defScope (top 48)) 2) (defBody (top 48)) [.v (.t (L.map .s)), .v (.i (k : Int)), .no, .no, .no, .no] _; refine xss_form ?_
  have hmt : marksT.length = 27 := rfl
  refine xss_setX 2 pt_ ⟨_, (xe_lc (own := [("layer", 4)]) lc_ (xi_any (xv 0) (by constructor)) (xg1 4 pt_) (by first | (simp [rangeD]; omega) | (simp; omega) | (simp; done)) (comp_mapS (g := fun x => [at_ x k]) (fun x hm => have hlx := hL x hm; ⟨_, _, putn 4, (xe_ix (xv 4) (xv 1) (by first | exact it2S | exact itS _ rfl (by first | omega | (simp; done) | (simp; omega) | assumption) (by first | omega | (simp; done) | (simp; omega) | assumption) | exact itN _ rfl (by first | omega | (simp; done) | (simp; omega) | assumption) | exact itI _ rfl (by first | omega | (simp; done) | (simp; omega) | assumption) | exact itL _ rfl default (by first | omega | (simp; done) | (simp; omega) | assumption) | exact itT _ rfl default (by first | omega | (simp; done) | (simp; omega) | assumption))), by rfl⟩))), ?_⟩
  refine xss_cons (xs_setLc 3 (own := [("mark", 5)]) lc_ rfl rfl (fun _ => rfl) (xi_any (xe_revS (F.x_MARKS rfl) (by decide)) (by constructor)) (xg1 5 pt_) (by first | (simp [rangeD]; omega) | (simp; omega) | (simp; done)) (comp_filter (g := fun m : Nat => .s [m]) (t := fun m => decide (m ∉ L.map fun x => at_ x k)) (fun m hm => ⟨_, putn 5, XT.eq (xt_notIn (xv 5) (xv 2) (by first | exact insN _ _ | exact insNl _ _ | exact InSq.sl _ _ | exact InSq.st _ _ | exact InSq.il _ _ | exact InSq.it _ _)) (by exact not_one m k L ), fun hf => ⟨_, (xv 5), by  rfl⟩⟩))) ?_
  refine xss_one (xs_ret ?_)
  exact (xe_ix (xv 3) xe_int (itL (f := fun m : Nat => .s [m]) 0 rfl 0 (free_pos hf)))
theorem sp_strange_sheet (F : Wo W) {n : Nat} {a b : Sm} (ha : OkS n a) (hb : OkS n b) (hf : ∀ k, k < n → Free (layT a ++ layT b) k) : RB W N_strange_sheet (defScope (top 49)) 3 (defBody (top 49)) 2 [stockD n a, stockD n b] (.s (strangeF n (layT a ++ layT b))) := by
  refine ⟨rfl, _, .rt _, ?_⟩
  show XSs (W.ga N_strange_sheet (defScope (top 49)) 3) (defBody (top 49)) [.v (stockD n a), .v (stockD n b), .no, .no] _; refine xss_form ?_
  have h1 := ha.few
  have h2 := hb.few
  have hn := ha.hi
  have hL : ∀ x ∈ layT a ++ layT b, x.length = n := fun x hx => by
    rcases List.mem_append.mp hx with z | z
    · exact lay_len ha x z
    · exact lay_len hb x z
  have e : ((List.range n).map fun k => [strangeM (layT a ++ layT b) k]).flatten = strangeF n (layT a ++ layT b) := flat_tab _ _
  have hl : (strangeF n (layT a ++ layT b)).length ≤ 100000 := by unfold strangeF; rw [tab_len]; omega
  refine xss_ifX ⟨_, (xt_ne (xe_fld F.cf1 0 (xv 0) rfl rfl) (xe_fld F.cf1 0 (xv 1) rfl rfl) (by constructor)), fun h => ?_, fun h => ?_⟩
  · simp at h
  refine .skip ?_
  refine xss_setX 2 pt_ ⟨_, (XE.eq (xe_plus (xe_fld F.cf1 2 (xv 0) rfl rfl) (xe_fld F.cf1 2 (xv 1) rfl rfl) (AddD.t _ _ (by simp [layT]; omega))) (by rw [← List.map_append])), ?_⟩
  refine xss_one (xs_ret ?_)
  exact (xe_joinE (xe_str (l := []) (by decide +kernel)) (xe_lc (own := [("cell", 3)]) lc_ (xi_range F.n_range (xe_fld F.cf1 0 (xv 0) rfl rfl) (by first | omega | (simp; done) | (simp; omega) | assumption)) (xg1 3 pt_) (by first | (simp [rangeD]; omega) | (simp; omega) | (simp; done)) (comp_mapS (g := fun k : Nat => [strangeM (layT a ++ layT b) k]) (fun k hm => have hk := List.mem_range.mp hm; ⟨_, _, putn 3, (xe_call F.kn_strange_mark (by dsimp only [Wd.ga, Ga.blk]; decide) (xa_cons (xv 2) (xa_cons (xv 3) xa_nil)) (sp_strange_mark F hn hL hk (by simp [layT]; omega) (hf k hk))), by rfl⟩))) (by first | assumption | rfl) (by first | assumption | (simp; omega) | omega))
theorem sp_rows_by (F : Wo W) {n : Nat} {mk st : Sm} (hk : OkS n mk) (hs : OkS n st) : RB W N_rows_by (defScope (top 50)) 9 (defBody (top 50)) 2 [stockD n mk, stockD n st] (.t ((rowsF mk st).map rowD)) := by
  refine ⟨rfl, _, .rt _, ?_⟩
  show XSs (W.ga N_rows_by (defScope (top 50)) 9) (defBody (top 50)) [.v (stockD n mk), .v (stockD n st), .no] _; refine xss_form ?_
  have hfew := hs.few
  have hll : (layT st).length = st.length := by simp [layT]
  refine xss_retX ⟨_, (xe_tupleL F.n_tuple (xe_lc (own := [("stamp", 2)]) lc_ (xi_any (xe_fld F.cf1 2 (xv 1) rfl rfl) (by constructor)) (xg1 2 pt_) (by first | (simp [rangeD]; omega) | (simp; omega) | (simp; done)) (comp_map (g := fun x => rowD (madeF mk x).1) (fun x hm => have hlx := lay_len hs x hm; ⟨_, _, putn 2, (xe_fld F.cf2 1 (xe_call F.kn_stamp_making (by dsimp only [Wd.ga, Ga.blk]; decide) (xa_cons (xv 0) (xa_cons (xv 2) xa_nil)) (sp_stamp_making F hk hlx)) rfl rfl), by rfl⟩)))), ?_⟩
  simp [rowsF]
theorem sp_first_missing (F : Wo W) {n : Nat} {st : Sm} {rows : List (Option (List Tx))} (hs : OkS n st) : RB W N_first_missing (defScope (top 51)) 2 (defBody (top 51)) 2 [stockD n st, .t (rows.map rowD)] (nameD (missF st rows)) := by
  refine ⟨rfl, _, .rt _, ?_⟩
  show XSs (W.ga N_first_missing (defScope (top 51)) 2) (defBody (top 51)) [.v (stockD n st), .v (.t (rows.map rowD)), .no, .no] _; refine xss_form ?_
  have hfew := hs.few
  refine xss_findIf (l := (namesT st).zip rows) (f := fun q : Tx × Option (List Tx) => .t [.s q.1, rowD q.2]) (test := fun q : Tx × Option (List Tx) => q.2.isNone) (res := fun q : Tx × Option (List Tx) => .s q.1) (xi_zip F.n_zip (xe_prop F.cf1 F.kp_names (by dsimp only [Wd.ga, Ga.blk]; decide) (xv 0) (sp_names F (by first | omega | (simp; done) | (simp; omega) | assumption))) (xv 1) (by first | exact ZpD.s _ _ | exact ZpD.t _ _ _ _)) (xg_two 2 3 pt_ pt_) (fun q hm => ⟨_, putt 2 3, XT.eq (xt_isN (xv 3)) (by (obtain ⟨a, b⟩ := q; cases b <;> rfl)), fun ht => (xv 2), by repeat (first | exact Wk.nil | refine Wk.same ?_ | refine Wk.drop ?_ | refine Wk.shl ?_ | refine Wk.shk ?_)⟩) ?_ ?_
  · intro q hq
    unfold missF
    rw [hq]; rfl
  · intro hq
    unfold missF
    rw [hq]
    refine xss_one (xs_ret ?_)
    exact xe_non
theorem sp_compare_stocks (F : Wo W) {n : Nat} {a b : Sm} (ha : OkS n a) (hb : OkS n b) (hf : ∀ k, k < n → Free (layT a ++ layT b) k) : RB W N_compare_stocks (defScope (top 53)) 10 (defBody (top 53)) 2 [stockD n a, stockD n b] (compD n a b) := by
  refine ⟨rfl, _, .rt _, ?_⟩
  show XSs (W.ga N_compare_stocks (defScope (top 53)) 10) (defBody (top 53)) [.v (stockD n a), .v (stockD n b), .no, .no, .no, .no, .no, .no] _; refine xss_form ?_
  refine xss_ifX ⟨_, (xt_ne (xe_fld F.cf1 0 (xv 0) rfl rfl) (xe_fld F.cf1 0 (xv 1) rfl rfl) (by constructor)), fun h => ?_, fun h => ?_⟩
  · simp at h
  refine .skip ?_
  refine xss_setX 2 pt_ ⟨_, (xe_call F.kn_rows_by (by dsimp only [Wd.ga, Ga.blk]; decide) (xa_cons (xv 1) (xa_cons (xv 0) xa_nil)) (sp_rows_by F hb ha)), ?_⟩
  refine xss_setX 3 pt_ ⟨_, (xe_call F.kn_rows_by (by dsimp only [Wd.ga, Ga.blk]; decide) (xa_cons (xv 0) (xa_cons (xv 1) xa_nil)) (sp_rows_by F ha hb)), ?_⟩
  refine xss_setX 4 pt_ ⟨_, (xe_call F.kn_first_missing (by dsimp only [Wd.ga, Ga.blk]; decide) (xa_cons (xv 0) (xa_cons (xv 2) xa_nil)) (sp_first_missing F ha)), ?_⟩
  refine xss_setX 5 pt_ ⟨_, (xe_call F.kn_first_missing (by dsimp only [Wd.ga, Ga.blk]; decide) (xa_cons (xv 1) (xa_cons (xv 3) xa_nil)) (sp_first_missing F hb)), ?_⟩
  refine xss_setX 6 pt_ ⟨_, (xe_call F.kn_comparison_word (by dsimp only [Wd.ga, Ga.blk]; decide) (xa_cons (xv 4) (xa_cons (xv 5) xa_nil)) (sp_comparison_word F (a := missA a b) (b := missA b a))), ?_⟩
  refine xss_setX 7 pt_ ⟨_, (XE.eq (xe_ite (xt_eq (xv 6) (xe_str (l := [97, 108, 105, 107, 101]) (by decide +kernel)) (by constructor)) (fun _ => xe_non) (fun _ => (xe_call F.kn_strange_sheet (by dsimp only [Wd.ga, Ga.blk]; decide) (xa_cons (xv 0) (xa_cons (xv 1) xa_nil)) (sp_strange_sheet F ha hb hf)))) (d' := nameD (sheetC n a b)) (by unfold sheetC; by_cases z : wordC a b = aliveT <;> simp [wordC, aliveT] at z ⊢ <;> simp [z, nameD, wordC])), ?_⟩
  refine xss_one (xs_ret ?_)
  exact (xe_make F.ki_Comparison (by dsimp only [Wd.ga, Ga.blk]; decide) (xa_cons (xv 6) (xa_cons (xv 2) (xa_cons (xv 3) (xa_cons (xv 4) (xa_cons (xv 5) (xa_cons (xv 7) xa_nil)))))) (si_Comparison F))
end
end Q8
namespace Q8
open PySem L2 PyProof.Rows
def lookL (st : Sm) (x : Tx) : Tx := (lookS st x).getD []
theorem look_mem {st : Sm} {x : Tx} (h : x ∈ namesT st) : lookS st x = some (lookL st x) ∧ ∃ q ∈ st, q.1 = x ∧ q.2 = lookL st x := by
  obtain ⟨q, hq, e⟩ := List.mem_map.mp h
  unfold lookL lookS
  cases h2 : st.find? fun q => decide (q.1 = x) with
  | none => exact absurd e (by simpa using List.find?_eq_none.mp h2 q hq)
  | some p => exact ⟨rfl, p, List.mem_of_find?_eq_some h2, by simpa using List.find?_some h2, rfl⟩
theorem look_len {n : Nat} {st : Sm} (hs : OkS n st) {x : Tx} (h : x ∈ namesT st) : (lookL st x).length = n := by
  obtain ⟨_, q, hq, _, e⟩ := look_mem h
  rw [← e]
  exact (hs.lay q hq).len
/-- a row names stamps of the stock, and its net is x -/
structure RowOk (n : Nat) (mk : Sm) (l : List Tx) (x : Tx) : Prop where
  few : l.length ≤ 1000
  mem : ∀ y ∈ l, y ∈ namesT mk
  net : netF n (l.map (lookL mk)) = x
theorem fold_len {n : Nat} : ∀ (L : List Tx) (x : Tx), x.length = n → (L.foldl pressF x).length = n
  | [], x, h => h
  | y :: L, x, h => fold_len L (pressF x y) (by rw [pressF_len]; exact h)
section
variable {W : Wd}
theorem sp_row_layers (F : Wo W) {n : Nat} {mk : Sm} {r : List Tx} (hr : r.length ≤ 1000) (hme : ∀ y ∈ r, y ∈ namesT mk) : RB W N_row_layers (defScope (top 55)) 5 (defBody (top 55)) 2 [stockD n mk, .t (r.map .s)] (.t ((r.map (lookL mk)).map .s)) := by
  refine ⟨rfl, _, .rt _, ?_⟩
  show XSs (W.ga N_row_layers (defScope (top 55)) 5) (defBody (top 55)) [.v (stockD n mk), .v (.t (r.map .s)), .no] _; refine xss_form ?_
  refine xss_one (xs_ret ?_)
  exact (xe_tupleL F.n_tuple (xe_lc (own := [("name", 2)]) lc_ (xi_any (xe_call F.kn_known_names (by dsimp only [Wd.ga, Ga.blk]; decide) (xa_cons (xv 0) (xa_cons (xv 1) xa_nil)) (sp_known_names F hr hme)) (by constructor)) (xg1 2 pt_) (by first | (simp [rangeD]; omega) | (simp; omega) | (simp; done)) (comp_mapS (g := fun y => lookL mk y) (fun y hm => ⟨_, _, putn 2, (xe_meth F.cf1 F.km_stamp (by dsimp only [Wd.ga, Ga.blk]; decide) (xv 0) (xa_cons (xv 2) xa_nil) (sp_stamp F (look_mem (hme y hm)).1)), by rfl⟩))))
theorem sp_press_all (F : Wo W) {n : Nat} {x : Tx} {L : List Tx} (hn : n ≤ 1000) (hx : x.length = n) (hL : ∀ y ∈ L, y.length = n) : RB W N_press_all (defScope (top 56)) 1 (defBody (top 56)) 2 [.s x, .t (L.map .s)] (.s (L.foldl pressF x)) := by
  refine ⟨rfl, _, .rt _, ?_⟩
  show XSs (W.ga N_press_all (defScope (top 56)) 1) (defBody (top 56)) [.v (.s x), .v (.t (L.map .s)), .no, .no] _; refine xss_form ?_
  refine xss_setX 2 pt_ ⟨_, (xv 0), ?_⟩
  refine xss_foldI (S := Tx) (s := x) (l := L) (step := pressF) (E := fun s => [.v (.s x), .v (.t (L.map .s)), .v (.s s), .no]) (f := D.s) (fun s => s.length = n) hx (xi_any (xv 1) (by constructor)) (xg1 3 pt_) (fun s hs y hy => ⟨by rw [pressF_len]; exact hs, _, [.v (.s x), .v (.t (L.map .s)), .v (.s (pressF s y)), .v (.s y)], putn 3, ?_, by repeat (first | exact Wk.nil | refine Wk.same ?_ | refine Wk.drop ?_ | refine Wk.shl ?_ | refine Wk.shk ?_)⟩) fun _ => ?_
  · refine xss_form ?_
    refine xss_setX 2 pt_ ⟨_, (xe_call F.kn_press (by dsimp only [Wd.ga, Ga.blk]; decide) (xa_cons (xv 2) (xa_cons (xv 3) xa_nil)) (sp_press F (by omega) (by rw [hL y hy, hs]))), ?_⟩
    exact xss_nil
  refine xss_one (xs_ret ?_)
  exact (xv 2)
theorem sp_net_of (F : Wo W) {n : Nat} {L : List Tx} (hn : n ≤ 1000) (hL : ∀ y ∈ L, y.length = n) : RB W N_net_of (defScope (top 57)) 2 (defBody (top 57)) 2 [.i (n : Int), .t (L.map .s)] (.s (netF n L)) := by
  refine ⟨rfl, _, .rt _, ?_⟩
  show XSs (W.ga N_net_of (defScope (top 57)) 2) (defBody (top 57)) [.v (.i (n : Int)), .v (.t (L.map .s))] _; refine xss_form ?_
  refine xss_one (xs_ret ?_)
  exact (xe_call F.kn_press_all (by dsimp only [Wd.ga, Ga.blk]; decide) (xa_cons (xe_call F.kn_empty_layer (by dsimp only [Wd.ga, Ga.blk]; decide) (xa_cons (xv 0) xa_nil) (sp_empty_layer F hn)) (xa_cons (xv 1) xa_nil)) (sp_press_all F hn (blank_len n) hL))
theorem sp_net_stamp (F : Wo W) {n : Nat} {mk : Sm} {r : List Tx} (hs : OkS n mk) (hr : r.length ≤ 1000) (hm : ∀ y ∈ r, y ∈ namesT mk) : RB W N_net_stamp (defScope (top 58)) 6 (defBody (top 58)) 2 [stockD n mk, .t (r.map .s)] (.s (netF n (r.map (lookL mk)))) := by
  refine ⟨rfl, _, .rt _, ?_⟩
  show XSs (W.ga N_net_stamp (defScope (top 58)) 6) (defBody (top 58)) [.v (stockD n mk), .v (.t (r.map .s))] _; refine xss_form ?_
  have hn : n ≤ 1000 := by have := hs.hi; omega
  have hL : ∀ y ∈ r.map (lookL mk), y.length = n := fun y hy => by
    obtain ⟨z, hz, rfl⟩ := List.mem_map.mp hy
    exact look_len hs (hm z hz)
  refine xss_one (xs_ret ?_)
  exact (xe_call F.kn_net_of (by dsimp only [Wd.ga, Ga.blk]; decide) (xa_cons (xe_fld F.cf1 0 (xv 0) rfl rfl) (xa_cons (xe_call F.kn_row_layers (by dsimp only [Wd.ga, Ga.blk]; decide) (xa_cons (xv 0) (xa_cons (xv 1) xa_nil)) (sp_row_layers F hr hm)) xa_nil)) (sp_net_of F hn hL))
theorem sp_is_row_for (F : Wo W) {n : Nat} {mk : Sm} {r : Option (List Tx)} {x : Tx} (hs : OkS n mk) (hr : ∀ l, r = some l → RowOk n mk l x) : RB W N_is_row_for (defScope (top 61)) 7 (defBody (top 61)) 3 [stockD n mk, rowD r, .s x] (.b true) := by
  refine ⟨rfl, _, .rt _, ?_⟩
  show XSs (W.ga N_is_row_for (defScope (top 61)) 7) (defBody (top 61)) [.v (stockD n mk), .v (rowD r), .v (.s x), .no] _; refine xss_form ?_
  cases r with
  | none =>
    refine xss_ifX ⟨_, (xt_isN (xv 1)), fun h => ?_, fun h => ?_⟩
    · refine .ret ?_
      refine xss_one (xs_ret ?_)
      exact xe_bl
    · cases h
  | some l =>
    obtain ⟨h1, h2, h3⟩ := hr l rfl
    refine xss_ifX ⟨_, (xt_isN (xv 1)), fun h => ?_, fun h => ?_⟩
    · cases h
    refine .skip ?_
    refine xss_findIf (l := l) (f := fun y => .s y) (test := fun y => !decide (y ∈ namesT mk)) (res := fun y => .b false) (xi_any (xv 1) (by constructor)) (xg1 3 pt_) (fun y hm => ⟨_, putn 3, XT.eq (xt_notInO F.km___contains__ (by dsimp only [Wd.ga, Ga.blk]; decide) (xv 3) (xv 0) (sp_contains F)) (by rfl), fun ht => xe_bl, by repeat (first | exact Wk.nil | refine Wk.same ?_ | refine Wk.drop ?_ | refine Wk.shl ?_ | refine Wk.shk ?_)⟩) ?_ ?_
    · intro y hy
      have := List.find?_some hy
      simp [h2 y (List.mem_of_find?_eq_some hy)] at this
    · intro _
      refine xss_retX ⟨_, (xe_eq (xe_call F.kn_net_stamp (by dsimp only [Wd.ga, Ga.blk]; decide) (xa_cons (xv 0) (xa_cons (xv 1) xa_nil)) (sp_net_stamp F hs h1 h2)) (xv 2) (by constructor)), ?_⟩
      simp [h3]
theorem sp_are_rows_for (F : Wo W) {n : Nat} {mk st : Sm} {rows : List (Option (List Tx))} (hk : OkS n mk) (hs : OkS n st) (hl : rows.length = st.length) (hr : ∀ q ∈ rows.zip (layT st), ∀ l, q.1 = some l → RowOk n mk l q.2) : RB W N_are_rows_for (defScope (top 62)) 8 (defBody (top 62)) 3 [stockD n mk, .t (rows.map rowD), stockD n st] (.b true) := by
  refine ⟨rfl, _, .rt _, ?_⟩
  show XSs (W.ga N_are_rows_for (defScope (top 62)) 8) (defBody (top 62)) [.v (stockD n mk), .v (.t (rows.map rowD)), .v (stockD n st), .no, .no] _; refine xss_form ?_
  have hfew := hs.few
  refine xss_ifX ⟨_, (xt_ne (xe_len F.n_len (xv 1) (by first | exact LenD.l _ | exact LenD.t _ | exact LenD.q _ | exact LenD.s _ (by first | omega | (simp; done) | (simp; omega) | assumption))) (xe_lenO F.n_len F.km___len__ (by dsimp only [Wd.ga, Ga.blk]; decide) (xv 2) (sp_len F) (by omega)) (by constructor)), fun h => ?_, fun h => ?_⟩
  · simp [hl] at h
  refine .skip ?_
  refine xss_findIf (l := rows.zip (layT st)) (f := fun q : Option (List Tx) × Tx => .t [rowD q.1, .s q.2]) (test := fun q : Option (List Tx) × Tx => false) (res := fun q : Option (List Tx) × Tx => .b false) (xi_zip F.n_zip (xv 1) (xe_fld F.cf1 2 (xv 2) rfl rfl) (by first | exact ZpD.s _ _ | exact ZpD.t _ _ _ _)) (xg_two 3 4 pt_ pt_) (fun q hm => ⟨_, putt 3 4, XT.eq (xt_not (xt_val (xe_call F.kn_is_row_for (by dsimp only [Wd.ga, Ga.blk]; decide) (xa_cons (xv 0) (xa_cons (xv 3) (xa_cons (xv 4) xa_nil))) (sp_is_row_for F hk (hr q hm))))) (by rfl), fun ht => xe_bl, by repeat (first | exact Wk.nil | refine Wk.same ?_ | refine Wk.drop ?_ | refine Wk.shl ?_ | refine Wk.shk ?_)⟩) ?_ ?_
  · intro q hq
    have := List.find?_some hq
    cases this
  · intro _
    refine xss_one (xs_ret ?_)
    exact xe_bl
/-! ### missing stamps -/
/-- the cells left over are fast -/
structure CellsOk (n : Nat) (mk : Sm) (x : Tx) (cs : List Nat) : Prop where
  ne : 0 < cs.length
  few : cs.length < 60
  inc : cs.Pairwise (· < ·)
  lt : ∀ k ∈ cs, k < n
  mks : ∀ k ∈ cs, at_ x k ≠ 45
  no : ∀ y ∈ layT (innerS mk x), (∃ k ∈ cs, at_ y k ≠ 45) → ∃ k ∈ cs, at_ y k ≠ 45 ∧ at_ y k ≠ at_ x k
theorem sp_is_stamp_refusal (F : Wo W) {n : Nat} {mk : Sm} {x : Tx} {cs : List Nat} (hs : OkS n mk) (hx : x.length = n) (hc : CellsOk n mk x cs) : RB W N_is_stamp_refusal (defScope (top 45)) 7 (defBody (top 45)) 3 [stockD n mk, .s x, .t (natsD cs)] (.b true) := by
  refine ⟨rfl, _, .rt _, ?_⟩
  show XSs (W.ga N_is_stamp_refusal (defScope (top 45)) 7) (defBody (top 45)) [.v (stockD n mk), .v (.s x), .v (.t (natsD cs))] _; refine xss_form ?_
  have hn := hs.hi
  have hne := hc.ne
  have hL : ∀ y ∈ layT (innerS mk x), y.length = x.length := fun y hy => by rw [lay_len (hs.filter _) y hy, hx]
  have hlt : ∀ k ∈ cs, k < x.length := fun k hk => by rw [hx]; exact hc.lt k hk
  refine xss_retX ⟨_, (xe_and (xe_gt (xe_len F.n_len (xv 2) (by first | exact LenD.l _ | exact LenD.t _ | exact LenD.q _ | exact LenD.s _ (by first | omega | (simp; done) | (simp; omega) | assumption))) xe_int) (fun hh1 => (xe_bool1 (xe_call F.kn_is_fast (by dsimp only [Wd.ga, Ga.blk]; decide) (xa_cons (xe_call F.kn_inner_stock (by dsimp only [Wd.ga, Ga.blk]; decide) (xa_cons (xv 0) (xa_cons (xv 1) xa_nil)) (sp_inner_stock F hs hx)) (xa_cons (xv 1) (xa_cons (xv 2) xa_nil))) (sp_is_fast F (by rw [hx]; omega) hL hc.few hc.inc hlt hc.mks hc.no))))), ?_⟩
  simp [natsD]; omega
/-- texts of signs -/
def Sgn (x : Tx) : Prop := ∀ c ∈ x, c < 1114112
theorem noN_rows : ∀ {rows : List (Option (List Tx))}, (∀ r ∈ rows, ∃ l, r = some l ∧ ∀ x ∈ l, Sgn x) → ∃ us, NoNs (rows.map rowD) us
  | [], _ => ⟨[], .nil⟩
  | r :: rows, h => by
    obtain ⟨l, rfl, h2⟩ := h r List.mem_cons_self
    obtain ⟨us, h3⟩ := noN_rows fun r hr => h r (List.mem_cons_of_mem _ hr)
    exact ⟨_, .cons (.ts l h2) h3⟩
theorem sp_is_missing_right (F : Wo W) {n : Nat} {mk st : Sm} {rows : List (Option (List Tx))} {m : Option Tx} {cs : List Nat} (hk : OkS n mk) (hs : OkS n st) (h0 : m = none → ∀ r ∈ rows, ∃ l, r = some l ∧ ∀ x ∈ l, Sgn x) (hm : ∀ x, m = some x → x ∈ namesT st ∧ CellsOk n mk (lookL st x) cs) : RB W N_is_missing_right (defScope (top 63)) 8 (defBody (top 63)) 5 [stockD n mk, .t (rows.map rowD), stockD n st, nameD m, .t (natsD cs)] (.b true) := by
  refine ⟨rfl, _, .rt _, ?_⟩
  show XSs (W.ga N_is_missing_right (defScope (top 63)) 8) (defBody (top 63)) [.v (stockD n mk), .v (.t (rows.map rowD)), .v (stockD n st), .v (nameD m), .v (.t (natsD cs))] _; refine xss_form ?_
  cases m with
  | none =>
    obtain ⟨us, hus⟩ := noN_rows (h0 rfl)
    refine xss_ifX ⟨_, (xt_isN (xv 3)), fun h => ?_, fun h => ?_⟩
    · refine .ret ?_
      refine xss_one (xs_ret ?_)
      exact (xe_noNone (xv 1) hus)
    · cases h
  | some x =>
    obtain ⟨h1, h2⟩ := hm x rfl
    refine xss_ifX ⟨_, (xt_isN (xv 3)), fun h => ?_, fun h => ?_⟩
    · cases h
    refine .skip ?_
    refine xss_retX ⟨_, (xe_and (xe_inO F.km___contains__ (by dsimp only [Wd.ga, Ga.blk]; decide) (xv 3) (xv 2) (sp_contains F)) (fun hh1 => (xe_bool1 (xe_call F.kn_is_stamp_refusal (by dsimp only [Wd.ga, Ga.blk]; decide) (xa_cons (xv 0) (xa_cons (xe_meth F.cf1 F.km_stamp (by dsimp only [Wd.ga, Ga.blk]; decide) (xv 2) (xa_cons (xv 3) xa_nil) (sp_stamp F (look_mem h1).1)) (xa_cons (xv 4) xa_nil))) (sp_is_stamp_refusal F hk (look_len hs h1) h2))))), ?_⟩
    simp [h1]
theorem sp_is_strange (F : Wo W) {n : Nat} {a b : Sm} {y : Tx} (ha : OkS n a) (hb : OkS n b) (hy : y.length = n) (hno : ∀ x ∈ layT a ++ layT b, ∀ k, k < n → at_ x k ≠ at_ y k) : RB W N_is_strange (defScope (top 64)) 0 (defBody (top 64)) 3 [stockD n a, stockD n b, .s y] (.b true) := by
  refine ⟨rfl, _, .rt _, ?_⟩
  show XSs (W.ga N_is_strange (defScope (top 64)) 0) (defBody (top 64)) [.v (stockD n a), .v (stockD n b), .v (.s y), .no, .no, .no] _; refine xss_form ?_
  have h1 := ha.few
  have h2 := hb.few
  have hL : ∀ x ∈ layT a ++ layT b, x.length = n := fun x hx => by
    rcases List.mem_append.mp hx with z | z
    · exact lay_len ha x z
    · exact lay_len hb x z
  refine xss_pass (l := layT a ++ layT b) (f := D.s) (xi_any (XE.eq (xe_plus (xe_fld F.cf1 2 (xv 0) rfl rfl) (xe_fld F.cf1 2 (xv 1) rfl rfl) (AddD.t _ _ (by simp [layT]; omega))) (by rw [← List.map_append])) (by constructor)) (xg1 3 pt_) (fun x hx => ?_) ?_
  · refine ⟨_, [.v (stockD n a), .v (stockD n b), .v (.s y), .v (.s x), .no, .no], putn 3, ?_, by repeat (first | exact Wk.nil | refine Wk.same ?_ | refine Wk.drop ?_ | refine Wk.shl ?_ | refine Wk.shk ?_)⟩
    refine xss_form ?_
    refine xss_findIf (l := x.zip y) (f := fun q : Nat × Nat => .t [.s [q.1], .s [q.2]]) (test := fun q : Nat × Nat => decide (q.1 = q.2)) (res := fun q : Nat × Nat => .b false) (xi_zip F.n_zip (xv 3) (xv 2) (by first | exact ZpD.s _ _ | exact ZpD.t _ _ _ _)) (xg_two 4 5 pt_ pt_) (fun q hm => ⟨_, putt 4 5, XT.eq (xt_eq (xv 4) (xv 5) (by constructor)) (by simp), fun ht => xe_bl, by repeat (first | exact Wk.nil | refine Wk.same ?_ | refine Wk.drop ?_ | refine Wk.shl ?_ | refine Wk.shk ?_)⟩) ?_ ?_
    · intro q hq
      have h3 := List.find?_some hq
      have hm := List.mem_of_find?_eq_some hq
      rw [zip_tab (by rw [hL x hx, hy])] at hm
      obtain ⟨k, hk, rfl⟩ := List.mem_map.mp hm
      exact absurd (by simpa using h3) (hno x hx k (by rw [← hL x hx]; exact List.mem_range.mp hk))
    · intro _
      exact xss_nil
  refine xss_one (xs_ret ?_)
  exact xe_bl
/-! ### a comparison judged -/
theorem okF_rows {rows : List (Option (List Tx))} (h : rows.length ≤ 1000) (h2 : ∀ r ∈ rows, ∀ l, r = some l → l.length ≤ 1000) : okF 2 (.t (rows.map rowD)) = true := by
  simp only [okF, List.length_map, decide_eq_true h, Bool.true_and, List.all_eq_true]
  intro a ha
  obtain ⟨r, hr, rfl⟩ := List.mem_map.mp ha
  cases r with
  | none => rfl
  | some l => exact okF_names (h2 _ hr l rfl)
theorem frz_rows (rows : List (Option (List Tx))) : frz 2 (.t (rows.map rowD)) = .t (rows.map rowD) := by
  simp only [frz, List.map_map]
  congr 1
  refine List.map_congr_left fun r _ => ?_
  cases r with
  | none => rfl
  | some l => exact frz_names l
theorem okF_nats {l : List Nat} (h : l.length ≤ 1000) : okF 2 (.t (natsD l)) = true := by
  simp only [okF, natsD, List.length_map, decide_eq_true h, Bool.true_and, List.all_eq_true]
  intro a ha
  obtain ⟨x, _, rfl⟩ := List.mem_map.mp ha
  rfl
theorem frz_nats (l : List Nat) : frz 2 (.t (natsD l)) = .t (natsD l) := by
  simp only [frz, natsD, List.map_map]; rfl
theorem okF_name (m : Option Tx) : okF 2 (nameD m) = true ∧ frz 2 (nameD m) = nameD m := by cases m <;> exact ⟨rfl, rfl⟩
theorem isN_name (m : Option Tx) : isN (nameD m) = m.isNone := by cases m <;> rfl
theorem word_ok (w : Tx) (hw : w ∈ wordsT) (m1 m2 : Option Tx) : (decide (w = wordF m1.isSome m2.isSome)) = ((m1.isNone == decide (w ∈ [aliveT, [105, 110, 115, 105, 100, 101]])) && (m2.isNone == decide (w ∈ [aliveT, [97, 114, 111, 117, 110, 100]]))) := by
  rw [show m1.isNone = !m1.isSome by cases m1 <;> rfl, show m2.isNone = !m2.isSome by cases m2 <;> rfl]
  generalize m1.isSome = a
  generalize m2.isSome = b
  simp only [wordsT, List.mem_cons, List.not_mem_nil, or_false] at hw
  rcases hw with rfl | rfl | rfl | rfl <;> cases a <;> cases b <;> decide
/-- what an answer holds of one side -/
structure SideOk (n : Nat) (mk st : Sm) (rows : List (Option (List Tx))) (m : Option Tx) (cs : List Nat) : Prop where
  len : rows.length = st.length
  row : ∀ q ∈ rows.zip (layT st), ∀ l, q.1 = some l → RowOk n mk l q.2
  few : ∀ r ∈ rows, ∀ l, r = some l → l.length ≤ 1000
  none : m = none → ∀ r ∈ rows, ∃ l, r = some l ∧ ∀ x ∈ l, Sgn x
  some : ∀ x, m = some x → x ∈ namesT st ∧ CellsOk n mk (lookL st x) cs
  cs : cs.length ≤ 1000
def answerL (w : Tx) (r1 r2 : List (Option (List Tx))) (m1 m2 sh : Option Tx) (c1 c2 : List Nat) : D := .l [.s w, .t (r1.map rowD), .t (r2.map rowD), nameD m1, nameD m2, nameD sh, .t (natsD c1), .t (natsD c2)]
theorem sp_is_comparison (F : Wo W) {n : Nat} {a b : Sm} {w : Tx} {r1 r2 : List (Option (List Tx))} {m1 m2 sh : Option Tx} {c1 c2 : List Nat} (ha : OkS n a) (hb : OkS n b) (hw : w ∈ wordsT) (s1 : SideOk n b a r1 m1 c1) (s2 : SideOk n a b r2 m2 c2)
    (hs : w = wordF m1.isSome m2.isSome → w ≠ aliveT → ∃ y, sh = some y ∧ y.length = n ∧ ∀ x ∈ layT a ++ layT b, ∀ k, k < n → at_ x k ≠ at_ y k) :
    RB W N_is_comparison (defScope (top 65)) 9 (defBody (top 65)) 3 [stockD n a, stockD n b, answerL w r1 r2 m1 m2 sh c1 c2] (.b (decide (w = wordF m1.isSome m2.isSome))) := by
  refine ⟨rfl, _, .rt _, ?_⟩
  show XSs (W.ga N_is_comparison (defScope (top 65)) 9) (defBody (top 65)) [.v (stockD n a), .v (stockD n b), .v (answerL w r1 r2 m1 m2 sh c1 c2), .no, .no, .no, .no, .no, .no, .no, .no] _; refine xss_form ?_
  have fa := ha.few
  have fb := hb.few
  have hok : okF 3 (answerL w r1 r2 m1 m2 sh c1 c2) = true := by
    have e1 := okF_rows (by rw [s1.len]; omega) s1.few
    have e2 := okF_rows (by rw [s2.len]; omega) s2.few
    have e3 := okF_nats s1.cs
    have e4 := okF_nats s2.cs
    show (decide (_ ≤ 1000) && List.all _ _) = true
    simp only [List.all_cons, List.all_nil, e1, e2, e3, e4, (okF_name m1).1, (okF_name m2).1, (okF_name sh).1, Bool.and_true, Bool.true_and]
    rfl
  have hfz : frz 3 (answerL w r1 r2 m1 m2 sh c1 c2) = .t [.s w, .t (r1.map rowD), .t (r2.map rowD), nameD m1, nameD m2, nameD sh, .t (natsD c1), .t (natsD c2)] := by
    show D.t [frz 2 _, frz 2 _, frz 2 _, frz 2 _, frz 2 _, frz 2 _, frz 2 _, frz 2 _] = _
    rw [frz_rows, frz_rows, (okF_name m1).2, (okF_name m2).2, (okF_name sh).2, frz_nats, frz_nats]
    rfl
  have key := word_ok w hw m1 m2
  refine xss_ifX ⟨_, (xt_ne (xe_fld F.cf1 0 (xv 0) rfl rfl) (xe_fld F.cf1 0 (xv 1) rfl rfl) (by constructor)), fun h => ?_, fun h => ?_⟩
  · simp at h
  refine .skip ?_
  refine xss_cons (xs_unpack (is := [3, 4, 5, 6, 7, 8, 9, 10]) (XE.eq (xe_call (F.kn_frozen 3) (by dsimp only [Wd.ga, Ga.blk]; decide) (xa_cons (xv 2) xa_nil) (sp_frozen F 3 _ hok 3 (by omega))) hfz) (.cons pt_ (.cons pt_ (.cons pt_ (.cons pt_ (.cons pt_ (.cons pt_ (.cons pt_ (.cons pt_ .nil)))))))) rfl) ?_
  simp only [setAll]
  refine xss_ifX ⟨_, (xt_notIn (xv 3) (F.x_WORDS rfl) (InSq.st _ wordsT)), fun h => ?_, fun h => ?_⟩
  · rw [decide_eq_true hw] at h; cases h
  refine .skip ?_
  refine xss_ifX ⟨_, (XW.xt (xw_or (xt_not (xt_val (xe_call F.kn_are_rows_for (by dsimp only [Wd.ga, Ga.blk]; decide) (xa_cons (xv 1) (xa_cons (xv 4) (xa_cons (xv 0) xa_nil))) (sp_are_rows_for F hb ha s1.len s1.row)))) (fun hh1 => (xw_or1 (xt_not (xt_val (xe_call F.kn_are_rows_for (by dsimp only [Wd.ga, Ga.blk]; decide) (xa_cons (xv 0) (xa_cons (xv 5) (xa_cons (xv 1) xa_nil))) (sp_are_rows_for F ha hb s2.len s2.row)))))))), fun h => ?_, fun h => ?_⟩
  · cases h
  refine .skip ?_
  refine xss_ifX ⟨_, (xt_ne (xe_isN (xv 6)) (xe_in (xv 3) (xe_tup (xa_cons (xe_str (l := [97, 108, 105, 107, 101]) (by decide +kernel)) (xa_cons (xe_str (l := [105, 110, 115, 105, 100, 101]) (by decide +kernel)) xa_nil)) (by first | omega | (simp; done) | (simp; omega) | assumption)) (InSq.st w [aliveT, [105, 110, 115, 105, 100, 101]])) (ScEq.b _ _)), fun h => ?_, fun h => ?_⟩
  · refine .ret ?_
    refine xss_retX ⟨_, xe_bl, ?_⟩
    rw [isN_name] at h
    have : (m1.isNone == decide (w ∈ [aliveT, [105, 110, 115, 105, 100, 101]])) = false := by simpa using h
    rw [key, this]; rfl
  refine .skip ?_
  rw [isN_name] at h
  have h4 : (m1.isNone == decide (w ∈ [aliveT, [105, 110, 115, 105, 100, 101]])) = true := by simpa using h
  clear h
  refine xss_ifX ⟨_, (xt_ne (xe_isN (xv 7)) (xe_in (xv 3) (xe_tup (xa_cons (xe_str (l := [97, 108, 105, 107, 101]) (by decide +kernel)) (xa_cons (xe_str (l := [97, 114, 111, 117, 110, 100]) (by decide +kernel)) xa_nil)) (by first | omega | (simp; done) | (simp; omega) | assumption)) (InSq.st w [aliveT, [97, 114, 111, 117, 110, 100]])) (ScEq.b _ _)), fun h => ?_, fun h => ?_⟩
  · refine .ret ?_
    refine xss_retX ⟨_, xe_bl, ?_⟩
    rw [isN_name] at h
    have : (m2.isNone == decide (w ∈ [aliveT, [97, 114, 111, 117, 110, 100]])) = false := by simpa using h
    rw [key, this, Bool.and_false]
  refine .skip ?_
  rw [isN_name] at h
  have h5 : (m2.isNone == decide (w ∈ [aliveT, [97, 114, 111, 117, 110, 100]])) = true := by simpa using h
  clear h
  rw [h4, h5] at key
  rw [key]
  have hww : w = wordF m1.isSome m2.isSome := of_decide_eq_true key
  refine xss_ifX ⟨_, (xt_not (xt_val (xe_call F.kn_is_missing_right (by dsimp only [Wd.ga, Ga.blk]; decide) (xa_cons (xv 1) (xa_cons (xv 4) (xa_cons (xv 0) (xa_cons (xv 6) (xa_cons (xv 9) xa_nil))))) (sp_is_missing_right F hb ha s1.none s1.some)))), fun h => ?_, fun h => ?_⟩
  · cases h
  refine .skip ?_
  refine xss_ifX ⟨_, (xt_not (xt_val (xe_call F.kn_is_missing_right (by dsimp only [Wd.ga, Ga.blk]; decide) (xa_cons (xv 0) (xa_cons (xv 5) (xa_cons (xv 1) (xa_cons (xv 7) (xa_cons (xv 10) xa_nil))))) (sp_is_missing_right F ha hb s2.none s2.some)))), fun h => ?_, fun h => ?_⟩
  · cases h
  refine .skip ?_
  refine xss_ifX ⟨_, (xt_eq (xv 3) (xe_str (l := [97, 108, 105, 107, 101]) (by decide +kernel)) (by constructor)), fun h => ?_, fun h => ?_⟩
  · refine .ret ?_
    refine xss_one (xs_ret ?_)
    exact xe_bl
  refine .skip ?_
  have hwa : w ≠ aliveT := by simpa [aliveT] using h
  obtain ⟨y, rfl, hy⟩ := hs hww hwa
  refine xss_retX ⟨_, (xe_and (xe_notN (xv 8)) (fun hh1 => (xe_bool1 (xe_call F.kn_is_strange (by dsimp only [Wd.ga, Ga.blk]; decide) (xa_cons (xv 0) (xa_cons (xv 1) (xa_cons (xv 8) xa_nil))) (sp_is_strange F ha hb hy.1 hy.2))))), ?_⟩
  rfl
end
end Q8
namespace Q8
open PySem L2 PyProof.Rows
/-! ### peeling by pairs -/
def freeP (st : Sm) (x : Tx) : Option (Tx × Tx) := st.find? fun q => freesF q.2 x
def peelP (st : Sm) : Nat → Tx → List Tx × Tx
  | 0, x => ([], x)
  | n + 1, x => match freeP st x with
    | none => ([], x)
    | some q => (q.1 :: (peelP st n (freedF x q.2)).1, (peelP st n (freedF x q.2)).2)
theorem peelP_some {st : Sm} {n : Nat} {x : Tx} {q : Tx × Tx} (h : freeP st x = some q) : peelP st (n + 1) x = (q.1 :: (peelP st n (freedF x q.2)).1, (peelP st n (freedF x q.2)).2) := by
  show (match freeP st x with | none => _ | some q => _) = _
  rw [h]
theorem peelP_none {st : Sm} {n : Nat} {x : Tx} (h : freeP st x = none) : peelP st n x = ([], x) := by
  cases n with
  | zero => rfl
  | succ n =>
    show (match freeP st x with | none => _ | some q => _) = _
    rw [h]
theorem peelP_stable {st : Sm} (μ : Tx → Nat) (hμ : ∀ x q, freeP st x = some q → μ (freedF x q.2) < μ x) : ∀ (n m : Nat) (x : Tx), μ x ≤ n → μ x ≤ m → peelP st n x = peelP st m x := by
  intro n
  induction n with
  | zero =>
    intro m x hn hm
    cases h : freeP st x with
    | none => rw [peelP_none h, peelP_none h]
    | some q => have := hμ x q h; omega
  | succ n ih =>
    intro m x hn hm
    cases h : freeP st x with
    | none => rw [peelP_none h, peelP_none h]
    | some q =>
      have hlt := hμ x q h
      cases m with
      | zero => omega
      | succ m => rw [peelP_some h, peelP_some h, ih m _ (by omega) (by omega)]
theorem peelP_done {st : Sm} (μ : Tx → Nat) (hμ : ∀ x q, freeP st x = some q → μ (freedF x q.2) < μ x) : ∀ (n : Nat) (x : Tx), μ x ≤ n → freeP st (peelP st n x).2 = none := by
  intro n
  induction n with
  | zero =>
    intro x hn
    cases h : freeP st x with
    | none => rw [peelP_none h]; exact h
    | some q => have := hμ x q h; omega
  | succ n ih =>
    intro x hn
    cases h : freeP st x with
    | none => rw [peelP_none h]; exact h
    | some q => rw [peelP_some h]; exact ih _ (by have := hμ x q h; omega)
theorem freeP_frees {st : Sm} {x : Tx} {q : Tx × Tx} (h : freeP st x = some q) : freesF q.2 x = true ∧ q ∈ st := by
  unfold freeP at h
  have h1 := List.find?_some h
  exact ⟨h1, List.mem_of_find?_eq_some h⟩
theorem marks_dec {st : Sm} : ∀ x q, freeP st x = some q → marksN (freedF x q.2) < marksN x := fun x q h => marks_lt (freeP_frees h).1
/-- stamps that still lie on marks -/
def aliveN (st : Sm) (x : Tx) : Nat := (st.filter fun q => decide (freedF x q.2 ≠ x)).length
theorem freed_twice (x m : Tx) : freedF (freedF x m) m = freedF x m := by
  refine tx_ext (by rw [freedF_len]) fun k hk => ?_
  rw [freedF_len, freedF_len] at hk
  rw [at_freed (by rw [freedF_len]; exact hk), at_freed hk]
  split <;> rfl
theorem freed_same {x m : Tx} : freedF x m = x ↔ ∀ k, k < x.length → at_ m k ≠ 45 → at_ x k = 45 := by
  constructor
  · intro h k hk hm
    have := at_freed (u := x) (o := m) hk
    rw [h, if_neg hm] at this
    exact this
  · intro h
    refine tx_ext (freedF_len _ _) fun k hk => ?_
    rw [freedF_len] at hk
    rw [at_freed hk]
    by_cases c : at_ m k = 45
    · rw [if_pos c]
    · rw [if_neg c, h k hk c]
theorem alive_dec {st : Sm} : ∀ x q, freeP st x = some q → aliveN st (freedF x q.2) < aliveN st x := fun x q h => by
  obtain ⟨h1, h2⟩ := freeP_frees h
  have hne : freedF x q.2 ≠ x := by simpa using (Bool.and_eq_true_iff.mp h1).2
  unfold aliveN
  refine filter_lt (fun p hp hq => ?_) ⟨q, h2, by simpa using hne, by simpa using freed_twice x q.2⟩
  simp only [decide_eq_true_eq] at hq ⊢
  intro z
  refine hq (freed_same.mpr fun k hk hm => ?_)
  rw [freedF_len] at hk
  rw [at_freed hk]
  split
  · exact freed_same.mp z k hk hm
  · rfl
theorem peel_names {st : Sm} : ∀ (n : Nat) (x : Tx), ((peelW (layT st) n x).1.map fun k => (namesT st).getD k [], (peelW (layT st) n x).2) = peelP st n x
  | 0, x => rfl
  | n + 1, x => by
    have e : firstF (layT st) x = st.findIdx? fun q => freesF q.2 x := by
      rw [firstF_eq, layT, List.findIdx?_map]; rfl
    have e2 : freeP st x = (st.findIdx? fun q => freesF q.2 x).bind fun k => st[k]? := find_idx _ _
    cases h : st.findIdx? fun q => freesF q.2 x with
    | none =>
      rw [h] at e e2
      rw [peelP_none e2]
      unfold peelW
      rw [e]; rfl
    | some k =>
      obtain ⟨hk, _⟩ := List.findIdx?_eq_some_iff_getElem.mp h
      rw [h] at e e2
      have e3 : freeP st x = some st[k] := by rw [e2]; simp [List.getElem?_eq_getElem hk]
      rw [peelP_some e3]
      unfold peelW
      rw [e]
      have e4 : (layT st).getD k [] = st[k].2 := by simp [layT, List.getD_eq_getElem?_getD, List.getElem?_eq_getElem hk]
      have e5 : (namesT st).getD k [] = st[k].1 := by simp [namesT, List.getD_eq_getElem?_getD, List.getElem?_eq_getElem hk]
      simp only [List.map_cons, e4, e5]
      rw [← peel_names n (freedF x st[k].2)]
theorem peelS_eq (st : Sm) (x : Tx) (n : Nat) (h : marksN x ≤ n ∨ aliveN st x ≤ n) : peelS st x = peelP st n x := by
  have e : peelS st x = peelP st (x.length + 1) x := peel_names (x.length + 1) x
  have hm := marks_le x
  rcases h with h | h
  · rw [e]
    exact peelP_stable marksN marks_dec _ _ _ (by omega) h
  · rw [e]
    have h2 : aliveN st x ≤ aliveN st x + (x.length + 1) := by omega
    rw [peelP_stable marksN marks_dec (x.length + 1) (aliveN st x + (x.length + 1)) x (by omega) (by omega)]
    exact peelP_stable (aliveN st) alive_dec _ _ _ (by omega) h
theorem alive_le (st : Sm) (x : Tx) : aliveN st x ≤ st.length := List.length_filter_le _ _
section
variable {W : Wd}
theorem sp__law_press (F : Wo W) {u o : Tx} (hu : u.length ≤ 1000) (ho : o.length = u.length) : RB W N__law_press (defScope (top 74)) 2 (defBody (top 74)) 2 [.s u, .s o] (.s (pressF u o)) := by
  refine ⟨rfl, _, .rt _, ?_⟩
  show XSs (W.ga N__law_press (defScope (top 74)) 2) (defBody (top 74)) [.v (.s u), .v (.s o), .no] _; refine xss_form ?_
  have e : ((List.range u.length).map fun k => if at_ o k = 45 then [at_ u k] else [at_ o k]).flatten = pressF u o := flat_tabE _ _ _ fun k _ => by split <;> rfl
  have hl : (pressF u o).length ≤ 100000 := by rw [pressF_len]; omega
  refine xss_one (xs_ret ?_)
  exact (xe_joinE (xe_str (l := []) (by decide +kernel)) (xe_lc (own := [("_law_k", 2)]) lc_ (xi_range F.n_range (xe_len F.n_len (xv 0) (by first | exact LenD.l _ | exact LenD.t _ | exact LenD.q _ | exact LenD.s _ (by first | omega | (simp; done) | (simp; omega) | assumption))) (by first | omega | (simp; done) | (simp; omega) | assumption)) (xg1 2 pt_) (by first | (simp [rangeD]; omega) | (simp; omega) | (simp; done)) (comp_mapS (g := fun k : Nat => if at_ o k = 45 then [at_ u k] else [at_ o k]) (fun k hm => have hk := List.mem_range.mp hm; ⟨_, _, putn 2, (xe_ix (xe_lst (xa_cons (xe_ix (xv 1) (xv 2) (by first | exact it2S | exact itS _ rfl (by first | omega | (simp; done) | (simp; omega) | assumption) (by first | omega | (simp; done) | (simp; omega) | assumption) | exact itN _ rfl (by first | omega | (simp; done) | (simp; omega) | assumption) | exact itI _ rfl (by first | omega | (simp; done) | (simp; omega) | assumption) | exact itL _ rfl default (by first | omega | (simp; done) | (simp; omega) | assumption) | exact itT _ rfl default (by first | omega | (simp; done) | (simp; omega) | assumption))) (xa_cons (xe_ix (xv 0) (xv 2) (by first | exact it2S | exact itS _ rfl (by first | omega | (simp; done) | (simp; omega) | assumption) (by first | omega | (simp; done) | (simp; omega) | assumption) | exact itN _ rfl (by first | omega | (simp; done) | (simp; omega) | assumption) | exact itI _ rfl (by first | omega | (simp; done) | (simp; omega) | assumption) | exact itL _ rfl default (by first | omega | (simp; done) | (simp; omega) | assumption) | exact itT _ rfl default (by first | omega | (simp; done) | (simp; omega) | assumption))) xa_nil)) (by first | omega | (simp; done) | (simp; omega) | assumption)) (xe_int1 F.n_int (xe_eq (xe_ix (xv 1) (xv 2) (by first | exact it2S | exact itS _ rfl (by first | omega | (simp; done) | (simp; omega) | assumption) (by first | omega | (simp; done) | (simp; omega) | assumption) | exact itN _ rfl (by first | omega | (simp; done) | (simp; omega) | assumption) | exact itI _ rfl (by first | omega | (simp; done) | (simp; omega) | assumption) | exact itL _ rfl default (by first | omega | (simp; done) | (simp; omega) | assumption) | exact itT _ rfl default (by first | omega | (simp; done) | (simp; omega) | assumption))) (xe_str (l := [45]) (by decide +kernel)) (by constructor)) (by constructor)) (by first | exact it2S | exact itS _ rfl (by first | omega | (simp; done) | (simp; omega) | assumption) (by first | omega | (simp; done) | (simp; omega) | assumption) | exact itN _ rfl (by first | omega | (simp; done) | (simp; omega) | assumption) | exact itI _ rfl (by first | omega | (simp; done) | (simp; omega) | assumption) | exact itL _ rfl default (by first | omega | (simp; done) | (simp; omega) | assumption) | exact itT _ rfl default (by first | omega | (simp; done) | (simp; omega) | assumption))), by simp⟩))) (by first | assumption | rfl) (by first | assumption | (simp; omega) | omega))
theorem sp__law_free (F : Wo W) {u o : Tx} (hu : u.length ≤ 1000) (ho : o.length = u.length) : RB W N__law_free (defScope (top 76)) 2 (defBody (top 76)) 2 [.s u, .s o] (.s (freedF u o)) := by
  refine ⟨rfl, _, .rt _, ?_⟩
  show XSs (W.ga N__law_free (defScope (top 76)) 2) (defBody (top 76)) [.v (.s u), .v (.s o), .no] _; refine xss_form ?_
  have e : ((List.range u.length).map fun k => if at_ o k = 45 then [at_ u k] else [45]).flatten = freedF u o := flat_tabE _ _ _ fun k _ => by split <;> rfl
  have hl : (freedF u o).length ≤ 100000 := by rw [freedF_len]; omega
  refine xss_one (xs_ret ?_)
  exact (xe_joinE (xe_str (l := []) (by decide +kernel)) (xe_lc (own := [("_law_k", 2)]) lc_ (xi_range F.n_range (xe_len F.n_len (xv 0) (by first | exact LenD.l _ | exact LenD.t _ | exact LenD.q _ | exact LenD.s _ (by first | omega | (simp; done) | (simp; omega) | assumption))) (by first | omega | (simp; done) | (simp; omega) | assumption)) (xg1 2 pt_) (by first | (simp [rangeD]; omega) | (simp; omega) | (simp; done)) (comp_mapS (g := fun k : Nat => if at_ o k = 45 then [at_ u k] else [45]) (fun k hm => have hk := List.mem_range.mp hm; ⟨_, _, putn 2, (xe_ix (xe_lst (xa_cons (xe_str (l := [45]) (by decide +kernel)) (xa_cons (xe_ix (xv 0) (xv 2) (by first | exact it2S | exact itS _ rfl (by first | omega | (simp; done) | (simp; omega) | assumption) (by first | omega | (simp; done) | (simp; omega) | assumption) | exact itN _ rfl (by first | omega | (simp; done) | (simp; omega) | assumption) | exact itI _ rfl (by first | omega | (simp; done) | (simp; omega) | assumption) | exact itL _ rfl default (by first | omega | (simp; done) | (simp; omega) | assumption) | exact itT _ rfl default (by first | omega | (simp; done) | (simp; omega) | assumption))) xa_nil)) (by first | omega | (simp; done) | (simp; omega) | assumption)) (xe_int1 F.n_int (xe_eq (xe_ix (xv 1) (xv 2) (by first | exact it2S | exact itS _ rfl (by first | omega | (simp; done) | (simp; omega) | assumption) (by first | omega | (simp; done) | (simp; omega) | assumption) | exact itN _ rfl (by first | omega | (simp; done) | (simp; omega) | assumption) | exact itI _ rfl (by first | omega | (simp; done) | (simp; omega) | assumption) | exact itL _ rfl default (by first | omega | (simp; done) | (simp; omega) | assumption) | exact itT _ rfl default (by first | omega | (simp; done) | (simp; omega) | assumption))) (xe_str (l := [45]) (by decide +kernel)) (by constructor)) (by constructor)) (by first | exact it2S | exact itS _ rfl (by first | omega | (simp; done) | (simp; omega) | assumption) (by first | omega | (simp; done) | (simp; omega) | assumption) | exact itN _ rfl (by first | omega | (simp; done) | (simp; omega) | assumption) | exact itI _ rfl (by first | omega | (simp; done) | (simp; omega) | assumption) | exact itL _ rfl default (by first | omega | (simp; done) | (simp; omega) | assumption) | exact itT _ rfl default (by first | omega | (simp; done) | (simp; omega) | assumption))), by simp⟩))) (by first | assumption | rfl) (by first | assumption | (simp; omega) | omega))
theorem sp__law_agree (F : Wo W) {x y : Tx} (hx : x.length ≤ 1000) (hy : y.length = x.length) : RB W N__law_agree (defScope (top 75)) 2 (defBody (top 75)) 2 [.s x, .s y] (.b (agreeF x y)) := by
  refine ⟨rfl, _, .rt _, ?_⟩
  show XSs (W.ga N__law_agree (defScope (top 75)) 2) (defBody (top 75)) [.v (.s x), .v (.s y), .no] _; refine xss_form ?_
  refine xss_findIf (l := List.range x.length) (f := fun k : Nat => .i (k : Int)) (test := fun k => (decide (at_ x k ≠ 45) && (decide (at_ y k ≠ 45) && decide (at_ x k ≠ at_ y k)))) (res := fun k => .b false) (xi_range F.n_range (xe_len F.n_len (xv 0) (by first | exact LenD.l _ | exact LenD.t _ | exact LenD.q _ | exact LenD.s _ (by first | omega | (simp; done) | (simp; omega) | assumption))) (by first | omega | (simp; done) | (simp; omega) | assumption)) (xg1 2 pt_) (fun k hm => have hk := List.mem_range.mp hm; ⟨_, putn 2, XT.eq (XW.xt (xw_and (xt_ne (xe_ix (xv 0) (xv 2) (by first | exact it2S | exact itS _ rfl (by first | omega | (simp; done) | (simp; omega) | assumption) (by first | omega | (simp; done) | (simp; omega) | assumption) | exact itN _ rfl (by first | omega | (simp; done) | (simp; omega) | assumption) | exact itI _ rfl (by first | omega | (simp; done) | (simp; omega) | assumption) | exact itL _ rfl default (by first | omega | (simp; done) | (simp; omega) | assumption) | exact itT _ rfl default (by first | omega | (simp; done) | (simp; omega) | assumption))) (xe_str (l := [45]) (by decide +kernel)) (by constructor)) (fun hh2 => (xw_and (xt_ne (xe_ix (xv 1) (xv 2) (by first | exact it2S | exact itS _ rfl (by first | omega | (simp; done) | (simp; omega) | assumption) (by first | omega | (simp; done) | (simp; omega) | assumption) | exact itN _ rfl (by first | omega | (simp; done) | (simp; omega) | assumption) | exact itI _ rfl (by first | omega | (simp; done) | (simp; omega) | assumption) | exact itL _ rfl default (by first | omega | (simp; done) | (simp; omega) | assumption) | exact itT _ rfl default (by first | omega | (simp; done) | (simp; omega) | assumption))) (xe_str (l := [45]) (by decide +kernel)) (by constructor)) (fun hh1 => (xw_and1 (xt_ne (xe_ix (xv 0) (xv 2) (by first | exact it2S | exact itS _ rfl (by first | omega | (simp; done) | (simp; omega) | assumption) (by first | omega | (simp; done) | (simp; omega) | assumption) | exact itN _ rfl (by first | omega | (simp; done) | (simp; omega) | assumption) | exact itI _ rfl (by first | omega | (simp; done) | (simp; omega) | assumption) | exact itL _ rfl default (by first | omega | (simp; done) | (simp; omega) | assumption) | exact itT _ rfl default (by first | omega | (simp; done) | (simp; omega) | assumption))) (xe_ix (xv 1) (xv 2) (by first | exact it2S | exact itS _ rfl (by first | omega | (simp; done) | (simp; omega) | assumption) (by first | omega | (simp; done) | (simp; omega) | assumption) | exact itN _ rfl (by first | omega | (simp; done) | (simp; omega) | assumption) | exact itI _ rfl (by first | omega | (simp; done) | (simp; omega) | assumption) | exact itL _ rfl default (by first | omega | (simp; done) | (simp; omega) | assumption) | exact itT _ rfl default (by first | omega | (simp; done) | (simp; omega) | assumption))) (by constructor)))))))) (by simp), fun ht => xe_bl, by repeat (first | exact Wk.nil | refine Wk.same ?_ | refine Wk.drop ?_ | refine Wk.shl ?_ | refine Wk.shk ?_)⟩) ?_ ?_
  · intro a ha
    unfold agreeF
    rw [all_found ha]
  · intro h
    unfold agreeF
    rw [all_find h]
    refine xss_one (xs_ret ?_)
    exact xe_bl
theorem sp__law_layer_of (F : Wo W) {st : Sm} {x y : Tx} (h : lookS st x = some y) : RB W N__law_layer_of (defScope (top 77)) 0 (defBody (top 77)) 2 [.l (st.map pairL), .s x] (.s y) := by
  refine ⟨rfl, _, .rt _, ?_⟩
  show XSs (W.ga N__law_layer_of (defScope (top 77)) 0) (defBody (top 77)) [.v (.l (st.map pairL)), .v (.s x), .no] _; refine xss_form ?_
  unfold lookS at h
  refine xss_findIf (l := st) (f := pairL) (test := fun q => decide (q.1 = x)) (res := fun q => .s q.2) (xi_any (xv 0) (by constructor)) (xg1 2 pt_) (fun q hm => ⟨_, putn 2, XT.eq (xt_eq (xe_ix (xv 2) xe_int (by first | exact itWT 0 rfl rfl | exact itW 0 rfl rfl | exact itS 0 rfl (by first | omega | (simp; done) | (simp; omega) | assumption) (by first | omega | (simp; done) | (simp; omega) | assumption) | exact itN 0 rfl (by first | omega | (simp; done) | (simp; omega) | assumption) | exact itI 0 rfl (by first | omega | (simp; done) | (simp; omega) | assumption) | exact itL 0 rfl default (by first | omega | (simp; done) | (simp; omega) | assumption) | exact itT 0 rfl default (by first | omega | (simp; done) | (simp; omega) | assumption))) (xv 1) (by constructor)) (by rfl), fun ht => (xe_ix (xv 2) xe_int (by first | exact itWT 1 rfl rfl | exact itW 1 rfl rfl | exact itS 1 rfl (by first | omega | (simp; done) | (simp; omega) | assumption) (by first | omega | (simp; done) | (simp; omega) | assumption) | exact itN 1 rfl (by first | omega | (simp; done) | (simp; omega) | assumption) | exact itI 1 rfl (by first | omega | (simp; done) | (simp; omega) | assumption) | exact itL 1 rfl default (by first | omega | (simp; done) | (simp; omega) | assumption) | exact itT 1 rfl default (by first | omega | (simp; done) | (simp; omega) | assumption))), by repeat (first | exact Wk.nil | refine Wk.same ?_ | refine Wk.drop ?_ | refine Wk.shl ?_ | refine Wk.shk ?_)⟩) ?_ ?_
  · intro a ha
    rw [ha] at h
    have : a.2 = y := by simpa using h
    rw [this]
  · intro ha
    rw [ha] at h
    cases h
def pairO : Option (Tx × Tx) → D
  | none => .n
  | some q => pairL q
theorem fold_find {α : Type} (p : α → Bool) : ∀ (l : List α) (s : Option α), l.foldl (fun s q => if s.isNone && p q then some q else s) s = if s.isNone then l.find? p else s
  | [], s => by cases s <;> rfl
  | a :: l, s => by
    rw [List.foldl_cons, fold_find p l]
    cases s with
    | some b => simp
    | none =>
      cases h : p a with
      | true => simp [h, List.find?_cons_of_pos h]
      | false => simp [h, List.find?_cons_of_neg (show ¬ p a = true by simp [h])]
theorem sp__law_peel (F : Wo W) {st : Sm} {x : Tx} (hx : x.length ≤ 1000) (hf : st.length ≤ 1000) (hL : ∀ q ∈ st, q.2.length = x.length) : RB W N__law_peel (defScope (top 78)) 3 (defBody (top 78)) 2 [.l (st.map pairL), .s x] (.l [.l ((peelS st x).1.map .s), .s (peelS st x).2]) := by
  refine ⟨rfl, _, .rt _, ?_⟩
  show XSs (W.ga N__law_peel (defScope (top 78)) 3) (defBody (top 78)) [.v (.l (st.map pairL)), .v (.s x), .no, .no, .no, .no, .no] _; refine xss_form ?_
  rw [peelS_eq st x (st.length + 1) (.inr (by have := alive_le st x; omega))]
  refine xss_cons (xs_setN 2 (xn_lst xa_nil) pt_ (by simp)) ?_
  refine xss_setX 3 pt_ ⟨_, (xv 1), ?_⟩
  have key : ∀ (l : List Nat) (o : List Tx) (y : Tx), y.length = x.length → o.length + l.length ≤ 5000 → Loop (W.ga N__law_peel (defScope (top 78)) 3) (putN 4) (whB (stAt (defBody (top 78)) 2)) [.v (.l (st.map pairL)), .v (.s x), .ol (o.map .s), .v (.s y), .no, .no, .no] (l.map fun k : Nat => .i (k : Int)) (.nx [.v (.l (st.map pairL)), .v (.s x), .ol ((o ++ (peelP st l.length y).1).map .s), .v (.s (peelP st l.length y).2), .no, .no, .no]) := by
    intro l
    induction l with
    | nil => intro o y hy ho; simp only [List.length_nil, peelP, List.append_nil]; exact .nil
    | cons k l ih =>
      intro o y hy ho
      have hL' : ∀ q ∈ st, q.2.length = y.length := fun q hq => by rw [hL q hq, hy]
      have turn : ∀ {out : Out}, (∀ f, f = freeP st y → XSs (W.ga N__law_peel (defScope (top 78)) 3) ((whB (stAt (defBody (top 78)) 2)).drop 2) [.v (.l (st.map pairL)), .v (.s x), .ol (o.map .s), .v (.s y), .v (.i (k : Int)), .v (pairO f), .no] out) → XSs (W.ga N__law_peel (defScope (top 78)) 3) (whB (stAt (defBody (top 78)) 2)) [.v (.l (st.map pairL)), .v (.s x), .ol (o.map .s), .v (.s y), .v (.i (k : Int)), .no, .no] out := fun {out} hh => by
        refine xss_form ?_
        refine xss_setX 5 pt_ ⟨_, xe_non, ?_⟩
        refine xss_fold (S := Option (Tx × Tx)) (s := none) (l := st) (f := pairL) (step := fun s q => if s.isNone && freesF q.2 y then some q else s) (E := fun s => [.v (.l (st.map pairL)), .v (.s x), .ol (o.map .s), .v (.s y), .v (.i (k : Int)), .v (pairO s), .no]) (xi_any (xv 0) (by constructor)) (xg1 6 pt_) (fun s q hq => ?_) ?_
        · have hq2 := hL' q hq
          refine ⟨[.v (.l (st.map pairL)), .v (.s x), .ol (o.map .s), .v (.s y), .v (.i (k : Int)), .v (pairO s), .v (pairL q)], [.v (.l (st.map pairL)), .v (.s x), .ol (o.map .s), .v (.s y), .v (.i (k : Int)), .v (pairO (if s.isNone && freesF q.2 y then some q else s)), .v (pairL q)], putn 6, ?_, by repeat (first | exact Wk.nil | refine Wk.same ?_ | refine Wk.drop ?_ | refine Wk.shl ?_ | refine Wk.shk ?_)⟩
          refine xss_form ?_
          refine xss_ifX ⟨(s.isNone && freesF q.2 y), XT.eq (XW.xt (xw_and (xt_isN (xv 5)) (fun hh2 => (xw_and (xt_val (xe_call F.kn__law_agree (by dsimp only [Wd.ga, Ga.blk]; decide) (xa_cons (xe_ix (xv 6) xe_int (by first | exact itWT 1 rfl rfl | exact itW 1 rfl rfl | exact itS 1 rfl (by first | omega | (simp; done) | (simp; omega) | assumption) (by first | omega | (simp; done) | (simp; omega) | assumption) | exact itN 1 rfl (by first | omega | (simp; done) | (simp; omega) | assumption) | exact itI 1 rfl (by first | omega | (simp; done) | (simp; omega) | assumption) | exact itL 1 rfl default (by first | omega | (simp; done) | (simp; omega) | assumption) | exact itT 1 rfl default (by first | omega | (simp; done) | (simp; omega) | assumption))) (xa_cons (xv 3) xa_nil)) (sp__law_agree F (by omega) (by omega)))) (fun hh1 => (xw_and1 (xt_ne (xe_call F.kn__law_free (by dsimp only [Wd.ga, Ga.blk]; decide) (xa_cons (xv 3) (xa_cons (xe_ix (xv 6) xe_int (by first | exact itWT 1 rfl rfl | exact itW 1 rfl rfl | exact itS 1 rfl (by first | omega | (simp; done) | (simp; omega) | assumption) (by first | omega | (simp; done) | (simp; omega) | assumption) | exact itN 1 rfl (by first | omega | (simp; done) | (simp; omega) | assumption) | exact itI 1 rfl (by first | omega | (simp; done) | (simp; omega) | assumption) | exact itL 1 rfl default (by first | omega | (simp; done) | (simp; omega) | assumption) | exact itT 1 rfl default (by first | omega | (simp; done) | (simp; omega) | assumption))) xa_nil)) (sp__law_free F (by omega) (by omega))) (xv 3) (by constructor)))))))) (by (cases s <;> simp [freesF, pairO, pairL, isN])), fun h => ?_, fun h => ?_⟩
          · refine .nx ?_ xss_nil
            rw [if_pos h]
            refine xss_form ?_
            refine xss_setX 5 pt_ ⟨_, (xv 6), ?_⟩
            exact xss_nil
          rw [if_neg (by rw [h]; simp)]
          exact .skip xss_nil
        · refine hh _ ?_
          rw [fold_find]
          rfl
      cases hf : freeP st y with
      | none =>
        rw [peelP_none hf]
        refine .bk (putn 4) (XSs.weakB (turn fun f hff => ?_) (e2 := [.v (.l (st.map pairL)), .v (.s x), .ol (o.map .s), .v (.s y), .v (.i (k : Int)), .v .n, .no]) (by rw [List.append_nil]; exact (by repeat (first | exact Wk.nil | refine Wk.same ?_ | refine Wk.drop ?_ | refine Wk.shl ?_ | refine Wk.shk ?_))))
        rw [hff, hf]
        refine xss_form ?_
        refine xss_ifX ⟨_, (xt_isN (xv 5)), fun h => ?_, fun h => ?_⟩
        · exact .lv (xss_one xs_break) (.bk _)
        · cases h
      | some q =>
        have hq2 := hL' q (freeP_frees hf).2
        rw [List.length_cons, peelP_some hf]
        refine .nx (putn 4) (turn fun f hff => ?_) (e2 := [.v (.l (st.map pairL)), .v (.s x), .ol ((o ++ [q.1]).map .s), .v (.s (freedF y q.2)), .v (.i (k : Int)), .v (pairL q), .no]) (by repeat (first | exact Wk.nil | refine Wk.same ?_ | refine Wk.drop ?_ | refine Wk.shl ?_ | refine Wk.shk ?_)) (?_ : Loop _ _ _ [.v (.l (st.map pairL)), .v (.s x), .ol ((o ++ [q.1]).map .s), .v (.s (freedF y q.2)), .no, .no, .no] _ _)
        · rw [hff, hf]
          refine xss_form ?_
          refine xss_ifX ⟨_, (xt_isN (xv 5)), fun h => ?_, fun h => ?_⟩
          · cases h
          refine .skip ?_
          have hol : (o.map D.s).length < 16777216 := by simp at ho ⊢; omega
          refine xss_cons (xs_append 2 (xe_ix (xv 5) xe_int (by first | exact itWT 0 rfl rfl | exact itW 0 rfl rfl | exact itS 0 rfl (by first | omega | (simp; done) | (simp; omega) | assumption) (by first | omega | (simp; done) | (simp; omega) | assumption) | exact itN 0 rfl (by first | omega | (simp; done) | (simp; omega) | assumption) | exact itI 0 rfl (by first | omega | (simp; done) | (simp; omega) | assumption) | exact itL 0 rfl default (by first | omega | (simp; done) | (simp; omega) | assumption) | exact itT 0 rfl default (by first | omega | (simp; done) | (simp; omega) | assumption))) rfl rfl (by first | exact Or.inl rfl | exact Or.inr (Or.inl rfl)) hol (by decide +kernel) (by decide +kernel)) ?_
          refine xss_setX 3 pt_ ⟨_, (xe_call F.kn__law_free (by dsimp only [Wd.ga, Ga.blk]; decide) (xa_cons (xv 3) (xa_cons (xe_ix (xv 5) xe_int (by first | exact itWT 1 rfl rfl | exact itW 1 rfl rfl | exact itS 1 rfl (by first | omega | (simp; done) | (simp; omega) | assumption) (by first | omega | (simp; done) | (simp; omega) | assumption) | exact itN 1 rfl (by first | omega | (simp; done) | (simp; omega) | assumption) | exact itI 1 rfl (by first | omega | (simp; done) | (simp; omega) | assumption) | exact itL 1 rfl default (by first | omega | (simp; done) | (simp; omega) | assumption) | exact itT 1 rfl default (by first | omega | (simp; done) | (simp; omega) | assumption))) xa_nil)) (sp__law_free F (by omega) (by omega))), ?_⟩
          simp only [List.set_cons_zero, List.set_cons_succ, List.map_append, List.map_cons, List.map_nil]
          exact xss_nil
        · have := ih (o ++ [q.1]) (freedF y q.2) (by rw [freedF_len]; exact hy) (by simp at ho ⊢; omega)
          simpa using this
  have hk := key (List.range (st.length + 1)) [] x rfl (by simp; omega)
  rw [List.length_range, List.nil_append] at hk
  refine xss_for (xi_range F.n_range (XE.eq (xe_plus (xe_len F.n_len (xv 0) (by first | exact LenD.l _ | exact LenD.t _ | exact LenD.q _ | exact LenD.s _ (by first | omega | (simp; done) | (simp; omega) | assumption))) xe_int (by first | exact AddD.i _ _ | exact AddD.s _ _ (by first | omega | (simp; done) | (simp; omega) | assumption) | exact AddD.l _ _ (by first | omega | (simp; done) | (simp; omega) | assumption) | exact AddD.t _ _ (by first | omega | (simp; done) | (simp; omega) | assumption))) (d' := .i ((st.length + 1 : Nat) : Int)) (by simp)) (by omega)) (xg1 4 pt_) (.inl ⟨_, hk, ?_⟩)
  refine XSs.weakL (env' := [.v (.l (st.map pairL)), .v (.s x), .v (.l ((peelP st (st.length + 1) x).1.map .s)), .v (.s (peelP st (st.length + 1) x).2), .no, .no, .no]) ?_ (by repeat (first | exact Wk.nil | refine Wk.same ?_ | refine Wk.drop ?_ | refine Wk.shl ?_ | refine Wk.shk ?_))
  refine xss_one (xs_ret ?_)
  exact (xe_lst (xa_cons (xv 2) (xa_cons (xv 3) xa_nil)) (by first | omega | (simp; done) | (simp; omega) | assumption))
end
end Q8
namespace Q8
open PySem L2 PyProof.Rows
theorem fold_filter {α : Type} (p : α → Bool) : ∀ (l s : List α), l.foldl (fun s q => if p q then s ++ [q] else s) s = s ++ l.filter p
  | [], s => by simp
  | a :: l, s => by
    rw [List.foldl_cons, fold_filter p l]
    cases h : p a with
    | true => rw [List.filter_cons_of_pos h]; simp
    | false => rw [List.filter_cons_of_neg (by simp [h])]; simp
theorem inside_freed {x y : Tx} (h : x.length = y.length) : decide (freedF x y = blank y.length) = insideF x y := by
  rw [Bool.eq_iff_iff, decide_eq_true_eq, insideF, List.all_eq_true]
  constructor
  · intro e k hk
    have hk := List.mem_range.mp hk
    have h1 := at_freed (u := x) (o := y) hk
    rw [e, at_blank (by omega)] at h1
    by_cases c : at_ y k = 45
    · rw [if_pos c] at h1
      rw [decide_eq_false (p := at_ x k ≠ 45) fun z => z h1.symm]; rfl
    · rw [decide_eq_false c, Bool.and_false]; rfl
  · intro e
    refine tx_ext (by rw [freedF_len, blank_len, h]) fun k hk => ?_
    rw [freedF_len] at hk
    have h1 := e k (List.mem_range.mpr hk)
    rw [at_freed hk, at_blank (by omega)]
    by_cases c : at_ y k = 45
    · rw [if_pos c]
      rw [decide_eq_true c, Bool.and_true] at h1
      exact Classical.byContradiction fun z => by rw [decide_eq_true (p := at_ x k ≠ 45) z] at h1; cases h1
    · rw [if_neg c]
def rowL : Option (List Tx) → D
  | none => .n
  | some r => .l (r.map .s)
theorem layL {n : Nat} {st : Sm} (hs : OkS n st) : ∀ q ∈ st, q.2.length = n := fun q hq => (hs.lay q hq).len
section
variable {W : Wd}
theorem sp__law_inner (F : Wo W) {n : Nat} {st : Sm} {x : Tx} (hn : n ≤ 1000) (hL : ∀ q ∈ st, q.2.length = n) (hx : x.length = n) (hf : st.length ≤ 1000) : RB W N__law_inner (defScope (top 91)) 3 (defBody (top 91)) 2 [.l (st.map pairL), .s x] (.l ((innerS st x).map pairL)) := by
  refine ⟨rfl, _, .rt _, ?_⟩
  show XSs (W.ga N__law_inner (defScope (top 91)) 3) (defBody (top 91)) [.v (.l (st.map pairL)), .v (.s x), .no, .no] _; refine xss_form ?_
  refine xss_cons (xs_setN 2 (xn_lst xa_nil) pt_ (by simp)) ?_
  refine xss_foldN (S := Sm) (s := []) (l := st) (f := pairL) (step := fun s q => if insideF q.2 x then s ++ [q] else s) (E := fun s => [.v (.l (st.map pairL)), .v (.s x), .ol (s.map pairL), .no]) (fun i s => s.length ≤ i) (Nat.le_refl 0) (xi_any (xv 0) (by constructor)) (xg1 3 pt_) (fun i s q hqi hs => have hq := List.mem_of_getElem? hqi; have hil : i < st.length := (List.getElem?_eq_some_iff.mp hqi).1; ⟨by split <;> first | omega | (simp only [List.length_append, List.length_singleton]; omega), [.v (.l (st.map pairL)), .v (.s x), .ol (s.map pairL), .v (pairL q)], [.v (.l (st.map pairL)), .v (.s x), .ol ((if insideF q.2 x then s ++ [q] else s).map pairL), .v (pairL q)], putn 3, ?_, by repeat (first | exact Wk.nil | refine Wk.same ?_ | refine Wk.drop ?_ | refine Wk.shl ?_ | refine Wk.shk ?_)⟩) fun _ => ?_
  · refine xss_form ?_
    refine xss_ifX ⟨insideF q.2 x, XT.eq (xt_eq (xe_call F.kn__law_free (by dsimp only [Wd.ga, Ga.blk]; decide) (xa_cons (xe_ix (xv 3) xe_int (by first | exact itWT 1 rfl rfl | exact itW 1 rfl rfl | exact itS 1 rfl (by first | omega | (simp; done) | (simp; omega) | assumption) (by first | omega | (simp; done) | (simp; omega) | assumption) | exact itN 1 rfl (by first | omega | (simp; done) | (simp; omega) | assumption) | exact itI 1 rfl (by first | omega | (simp; done) | (simp; omega) | assumption) | exact itL 1 rfl default (by first | omega | (simp; done) | (simp; omega) | assumption) | exact itT 1 rfl default (by first | omega | (simp; done) | (simp; omega) | assumption))) (xa_cons (xv 1) xa_nil)) (sp__law_free F (by rw [hL q hq]; omega) (by rw [hL q hq, hx]))) (xe_times (xe_str (l := [45]) (by decide +kernel)) (xe_len F.n_len (xv 1) (by first | exact LenD.l _ | exact LenD.t _ | exact LenD.q _ | exact LenD.s _ (by first | omega | (simp; done) | (simp; omega) | assumption))) (by first | exact MulD.i _ _ (by first | exact Or.inl (by omega) | exact Or.inr (by omega) | assumption) | exact MulD.s _ _ _ rfl (by first | omega | (simp; done) | (simp; omega) | assumption) (by first | omega | (simp; done) | (simp; omega) | assumption) | exact MulD.l _ _ _ rfl (by first | omega | (simp; done) | (simp; omega) | assumption) (by first | omega | (simp; done) | (simp; omega) | assumption))) (by constructor)) (by (rw [← inside_freed (by rw [hL q hq, hx])]; exact decide_eq_decide.mpr (by simp [blank]))), fun h => ?_, fun h => ?_⟩
    · refine .nx ?_ xss_nil
      rw [if_pos h]
      refine xss_form ?_
      have hol : (s.map pairL).length < 16777216 := by simp; omega
      refine xss_cons (xs_append 2 (xv 3) rfl rfl (by first | exact Or.inl rfl | exact Or.inr (Or.inl rfl)) hol (by decide +kernel) (by decide +kernel)) ?_
      simp only [List.set_cons_zero, List.set_cons_succ, List.map_append, List.map_cons, List.map_nil]
      exact xss_nil
    rw [if_neg (by rw [h]; simp)]
    exact .skip xss_nil
  rw [fold_filter, List.nil_append]
  refine XSs.weakL (env' := [.v (.l (st.map pairL)), .v (.s x), .v (.l ((innerS st x).map pairL)), .no]) ?_ (by repeat (first | exact Wk.nil | refine Wk.same ?_ | refine Wk.drop ?_ | refine Wk.shl ?_ | refine Wk.shk ?_))
  refine xss_one (xs_ret ?_)
  exact (xv 2)
theorem innerS_len {n : Nat} {st : Sm} {x : Tx} (hL : ∀ q ∈ st, q.2.length = n) : ∀ q ∈ innerS st x, q.2.length = n := fun q hq => hL q (List.mem_filter.mp hq).1
theorem innerS_few (st : Sm) (x : Tx) : (innerS st x).length ≤ st.length := List.length_filter_le _ _
theorem sp__law_made (F : Wo W) {n : Nat} {st : Sm} {x : Tx} (hn : n ≤ 1000) (hL : ∀ q ∈ st, q.2.length = n) (hx : x.length = n) (hf : st.length ≤ 1000) : RB W N__law_made (defScope (top 92)) 4 (defBody (top 92)) 2 [.l (st.map pairL), .s x] (.l [rowL (madeF st x).1, .l (natsD (madeF st x).2)]) := by
  refine ⟨rfl, _, .rt _, ?_⟩
  show XSs (W.ga N__law_made (defScope (top 92)) 4) (defBody (top 92)) [.v (.l (st.map pairL)), .v (.s x), .no, .no, .no] _; refine xss_form ?_
  have hlen : (peelS (innerS st x) x).2.length = x.length := peelF_len
  refine xss_setX 2 pt_ ⟨_, (xe_call F.kn__law_peel (by dsimp only [Wd.ga, Ga.blk]; decide) (xa_cons (xe_call F.kn__law_inner (by dsimp only [Wd.ga, Ga.blk]; decide) (xa_cons (xv 0) (xa_cons (xv 1) xa_nil)) (sp__law_inner F hn hL hx hf)) (xa_cons (xv 1) xa_nil)) (sp__law_peel F (by omega) (by have := innerS_few st x; omega) (fun q hq => by rw [innerS_len hL q hq, hx]))), ?_⟩
  refine xss_cons (xs_setLc 3 (own := [("_law_k", 4)]) lc_ rfl rfl (fun _ => rfl) (xi_range F.n_range (xe_len F.n_len (xv 1) (by first | exact LenD.l _ | exact LenD.t _ | exact LenD.q _ | exact LenD.s _ (by first | omega | (simp; done) | (simp; omega) | assumption))) (by first | omega | (simp; done) | (simp; omega) | assumption)) (xg1 4 pt_) (by first | (simp [rangeD]; omega) | (simp; omega) | (simp; done)) (comp_filter (g := fun k : Nat => .i (k : Int)) (t := fun k => decide (at_ (peelS (innerS st x) x).2 k ≠ 45)) (fun k hm => have hk := List.mem_range.mp hm; ⟨_, putn 4, XT.eq (xt_ne (xe_ix (xe_ix (xv 2) xe_int (itW 1 rfl rfl)) (xv 4) (by first | exact it2S | exact itS _ rfl (by first | omega | (simp; done) | (simp; omega) | assumption) (by first | omega | (simp; done) | (simp; omega) | assumption) | exact itN _ rfl (by first | omega | (simp; done) | (simp; omega) | assumption) | exact itI _ rfl (by first | omega | (simp; done) | (simp; omega) | assumption) | exact itL _ rfl default (by first | omega | (simp; done) | (simp; omega) | assumption) | exact itT _ rfl default (by first | omega | (simp; done) | (simp; omega) | assumption))) (xe_str (l := [45]) (by decide +kernel)) (by constructor)) (by simp ), fun hf => ⟨_, (xv 4), by  rfl⟩⟩))) ?_
  have ec : ((List.range x.length).filter fun k => decide (at_ (peelS (innerS st x) x).2 k ≠ 45)) = cellsF (peelS (innerS st x) x).2 := by unfold cellsF; rw [hlen]
  rw [ec]
  refine xss_ifX ⟨_, (xt_gt (xe_len F.n_len (xv 3) (by first | exact LenD.l _ | exact LenD.t _ | exact LenD.q _ | exact LenD.s _ (by first | omega | (simp; done) | (simp; omega) | assumption))) xe_int), fun h => ?_, fun h => ?_⟩
  · refine .ret ?_
    have hne : cellsF (peelS (innerS st x) x).2 ≠ [] := fun z => by rw [z] at h; simp at h
    refine xss_retX ⟨_, (xe_lst (xa_cons xe_non (xa_cons (xv 3) xa_nil)) (by first | omega | (simp; done) | (simp; omega) | assumption)), ?_⟩
    simp [madeF, hne, rowL, natsD]
  refine .skip ?_
  have he : cellsF (peelS (innerS st x) x).2 = [] := by
    cases hc : cellsF (peelS (innerS st x) x).2 with
    | nil => rfl
    | cons a l => rw [hc] at h; simp at h
  refine xss_retX ⟨_, (xe_lst (xa_cons (xe_revL (xe_ix (xv 2) xe_int (itW 0 rfl rfl))) (xa_cons (xe_lst xa_nil (by first | omega | (simp; done) | (simp; omega) | assumption)) xa_nil)) (by first | omega | (simp; done) | (simp; omega) | assumption)), ?_⟩
  simp [madeF, he, rowL, natsD]
theorem sp__law_net (F : Wo W) {n : Nat} {st : Sm} {r : List Tx} (hn : n ≤ 1000) (hm : ∀ y ∈ r, y ∈ namesT st) (hL : ∀ y ∈ namesT st, (lookL st y).length = n) : RB W N__law_net (defScope (top 93)) 3 (defBody (top 93)) 3 [.i (n : Int), .l (st.map pairL), .t (r.map .s)] (.s (netF n (r.map (lookL st)))) := by
  refine ⟨rfl, _, .rt _, ?_⟩
  show XSs (W.ga N__law_net (defScope (top 93)) 3) (defBody (top 93)) [.v (.i (n : Int)), .v (.l (st.map pairL)), .v (.t (r.map .s)), .no, .no] _; refine xss_form ?_
  refine xss_setX 3 pt_ ⟨_, (xe_times (xe_str (l := [45]) (by decide +kernel)) (xv 0) (by first | exact MulD.i _ _ (by first | exact Or.inl (by omega) | exact Or.inr (by omega) | assumption) | exact MulD.s _ _ _ rfl (by first | omega | (simp; done) | (simp; omega) | assumption) (by first | omega | (simp; done) | (simp; omega) | assumption) | exact MulD.l _ _ _ rfl (by first | omega | (simp; done) | (simp; omega) | assumption) (by first | omega | (simp; done) | (simp; omega) | assumption))), ?_⟩
  have eb : (List.replicate n [45]).flatten = blank n := by simp [blank]
  rw [eb]
  refine xss_foldI (S := Tx) (s := blank n) (l := r) (f := D.s) (step := fun s y => pressF s (lookL st y)) (E := fun s => [.v (.i (n : Int)), .v (.l (st.map pairL)), .v (.t (r.map .s)), .v (.s s), .no]) (fun s => s.length = n) (blank_len n) (xi_any (xv 2) (by constructor)) (xg1 4 pt_) (fun s hs y hy => ⟨by rw [pressF_len]; exact hs, _, [.v (.i (n : Int)), .v (.l (st.map pairL)), .v (.t (r.map .s)), .v (.s (pressF s (lookL st y))), .v (.s y)], putn 4, ?_, by repeat (first | exact Wk.nil | refine Wk.same ?_ | refine Wk.drop ?_ | refine Wk.shl ?_ | refine Wk.shk ?_)⟩) fun _ => ?_
  · refine xss_form ?_
    refine xss_setX 3 pt_ ⟨_, (xe_call F.kn__law_press (by dsimp only [Wd.ga, Ga.blk]; decide) (xa_cons (xv 3) (xa_cons (xe_call F.kn__law_layer_of (by dsimp only [Wd.ga, Ga.blk]; decide) (xa_cons (xv 1) (xa_cons (xv 4) xa_nil)) (sp__law_layer_of F (look_mem (hm y hy)).1)) xa_nil)) (sp__law_press F (by omega) (by rw [hs]; exact hL y (hm y hy)))), ?_⟩
    exact xss_nil
  refine xss_retX ⟨_, (xv 3), ?_⟩
  rw [netF, List.foldl_map]
/-! ### what is told -/
theorem sp__law_whole (F : Wo W) {x : Int} : RB W N__law_whole (defScope (top 67)) 0 (defBody (top 67)) 1 [.i x] (.b true) := by
  refine ⟨rfl, _, .rt _, ?_⟩
  show XSs (W.ga N__law_whole (defScope (top 67)) 0) (defBody (top 67)) [.v (.i x)] _; refine xss_form ?_
  refine xss_retX ⟨_, (xe_and (xe_isi F.n_isinstance (xv 0) (xe_bty (n := "int") F.n_int rfl (by decide +kernel)) (by constructor) (by constructor) (by first | rfl | exact kit_refl _ _) (by first | (intro c ds h; cases h; done) | (intro c ds h; cases h; first | exact F.ci1 | exact F.ci3))) (fun hh1 => (xe_bool1 (xe_not (xe_isi F.n_isinstance (xv 0) (xe_bty (n := "bool") F.n_bool rfl (by decide +kernel)) (by constructor) (by constructor) (by first | rfl | exact kit_refl _ _) (by first | (intro c ds h; cases h; done) | (intro c ds h; cases h; first | exact F.ci1 | exact F.ci3))))))), ?_⟩
  rfl
theorem sp__law_text_told (F : Wo W) {m : Option Tx} : RB W N__law_text_told (defScope (top 97)) 0 (defBody (top 97)) 2 [nameD m, nameD m] (.b true) := by
  refine ⟨rfl, _, .rt _, ?_⟩
  show XSs (W.ga N__law_text_told (defScope (top 97)) 0) (defBody (top 97)) [.v (nameD m), .v (nameD m)] _; refine xss_form ?_
  cases m with
  | none =>
    refine xss_ifX ⟨_, (xt_isN (xv 1)), fun h => ?_, fun h => ?_⟩
    · refine .ret ?_
      refine xss_retX ⟨_, (xe_isN (xv 0)), ?_⟩
      rfl
    · cases h
  | some x =>
    refine xss_ifX ⟨_, (xt_isN (xv 1)), fun h => ?_, fun h => ?_⟩
    · cases h
    refine .skip ?_
    refine xss_retX ⟨_, (xe_and (xe_isi F.n_isinstance (xv 0) (xe_bty (n := "str") F.n_str rfl (by decide +kernel)) (by constructor) (by constructor) (by first | rfl | exact kit_refl _ _) (by first | (intro c ds h; cases h; done) | (intro c ds h; cases h; first | exact F.ci1 | exact F.ci3))) (fun hh1 => (xe_bool1 (xe_eq (xv 0) (xv 1) (by constructor))))), ?_⟩
    simp
theorem sp__law_row_told (F : Wo W) {r : Option (List Tx)} (hr : ∀ l, r = some l → l.length ≤ 1000) : RB W N__law_row_told (defScope (top 94)) 2 (defBody (top 94)) 2 [rowD r, rowL r] (.b true) := by
  refine ⟨rfl, _, .rt _, ?_⟩
  show XSs (W.ga N__law_row_told (defScope (top 94)) 2) (defBody (top 94)) [.v (rowD r), .v (rowL r), .no] _; refine xss_form ?_
  cases r with
  | none =>
    refine xss_ifX ⟨_, (xt_isN (xv 1)), fun h => ?_, fun h => ?_⟩
    · refine .ret ?_
      refine xss_retX ⟨_, (xe_isN (xv 0)), ?_⟩
      rfl
    · cases h
  | some l =>
    have hl := hr l rfl
    refine xss_ifX ⟨_, (xt_isN (xv 1)), fun h => ?_, fun h => ?_⟩
    · cases h
    refine .skip ?_
    refine xss_ifX ⟨_, (XW.xt (xw_or (xt_not (xt_val (xe_isi F.n_isinstance (xv 0) (xe_bty (n := "tuple") F.n_tuple rfl (by decide +kernel)) (by constructor) (by constructor) (by first | rfl | exact kit_refl _ _) (by first | (intro c ds h; cases h; done) | (intro c ds h; cases h; first | exact F.ci1 | exact F.ci3))))) (fun hh1 => (xw_or1 (xt_ne (xe_len F.n_len (xv 0) (by first | exact LenD.l _ | exact LenD.t _ | exact LenD.q _ | exact LenD.s _ (by first | omega | (simp; done) | (simp; omega) | assumption))) (xe_len F.n_len (xv 1) (by first | exact LenD.l _ | exact LenD.t _ | exact LenD.q _ | exact LenD.s _ (by first | omega | (simp; done) | (simp; omega) | assumption))) (by constructor)))))), fun h => ?_, fun h => ?_⟩
    · simp at h
    refine .skip ?_
    refine xss_findIf (l := List.range (l.map D.s).length) (f := fun k : Nat => .i (k : Int)) (test := fun k => false) (res := fun k => .b false) (xi_range F.n_range (xe_len F.n_len (xv 1) (by first | exact LenD.l _ | exact LenD.t _ | exact LenD.q _ | exact LenD.s _ (by first | omega | (simp; done) | (simp; omega) | assumption))) (by first | omega | (simp; done) | (simp; omega) | assumption)) (xg1 2 pt_) (fun k hm => have hk : k < l.length := (by simpa using List.mem_range.mp hm); ⟨_, putn 2, XT.eq (XW.xt (xw_or (xt_not (xt_val (xe_isi F.n_isinstance (xe_ix (xv 0) (xv 2) (itT (f := D.s) k rfl [] hk)) (xe_bty (n := "str") F.n_str rfl (by decide +kernel)) (by constructor) (by constructor) (by first | rfl | exact kit_refl _ _) (by first | (intro c ds h; cases h; done) | (intro c ds h; cases h; first | exact F.ci1 | exact F.ci3))))) (fun hh1 => (xw_or1 (xt_ne (xe_ix (xv 0) (xv 2) (itT (f := D.s) k rfl [] hk)) (xe_ix (xv 1) (xv 2) (itL (f := D.s) k rfl [] hk)) (by constructor)))))) (by simp), fun ht => xe_bl, by repeat (first | exact Wk.nil | refine Wk.same ?_ | refine Wk.drop ?_ | refine Wk.shl ?_ | refine Wk.shk ?_)⟩) ?_ ?_
    · intro a ha
      have := List.find?_some ha
      cases this
    · intro _
      refine xss_one (xs_ret ?_)
      exact xe_bl
theorem getD_mem' {α : Type} {l : List α} {k : Nat} {d : α} (h : k < l.length) : l.getD k d ∈ l := by
  rw [List.getD_eq_getElem?_getD, List.getElem?_eq_getElem h]
  exact List.getElem_mem h
theorem sp__law_rows_told (F : Wo W) {rows : List (Option (List Tx))} (hl : rows.length ≤ 1000) (hr : ∀ l, some l ∈ rows → l.length ≤ 1000) : RB W N__law_rows_told (defScope (top 95)) 3 (defBody (top 95)) 2 [.t (rows.map rowD), .l (rows.map rowL)] (.b true) := by
  refine ⟨rfl, _, .rt _, ?_⟩
  show XSs (W.ga N__law_rows_told (defScope (top 95)) 3) (defBody (top 95)) [.v (.t (rows.map rowD)), .v (.l (rows.map rowL)), .no] _; refine xss_form ?_
  refine xss_ifX ⟨_, (XW.xt (xw_or (xt_not (xt_val (xe_isi F.n_isinstance (xv 0) (xe_bty (n := "tuple") F.n_tuple rfl (by decide +kernel)) (by constructor) (by constructor) (by first | rfl | exact kit_refl _ _) (by first | (intro c ds h; cases h; done) | (intro c ds h; cases h; first | exact F.ci1 | exact F.ci3))))) (fun hh1 => (xw_or1 (xt_ne (xe_len F.n_len (xv 0) (by first | exact LenD.l _ | exact LenD.t _ | exact LenD.q _ | exact LenD.s _ (by first | omega | (simp; done) | (simp; omega) | assumption))) (xe_len F.n_len (xv 1) (by first | exact LenD.l _ | exact LenD.t _ | exact LenD.q _ | exact LenD.s _ (by first | omega | (simp; done) | (simp; omega) | assumption))) (by constructor)))))), fun h => ?_, fun h => ?_⟩
  · simp at h
  refine .skip ?_
  refine xss_findIf (l := List.range (rows.map rowL).length) (f := fun k : Nat => .i (k : Int)) (test := fun k => false) (res := fun k => .b false) (xi_range F.n_range (xe_len F.n_len (xv 1) (by first | exact LenD.l _ | exact LenD.t _ | exact LenD.q _ | exact LenD.s _ (by first | omega | (simp; done) | (simp; omega) | assumption))) (by first | omega | (simp; done) | (simp; omega) | assumption)) (xg1 2 pt_) (fun k hm => have hk : k < rows.length := (by simpa using List.mem_range.mp hm); ⟨_, putn 2, XT.eq (xt_not (xt_val (xe_call F.kn__law_row_told (by dsimp only [Wd.ga, Ga.blk]; decide) (xa_cons (xe_ix (xv 0) (xv 2) (itT (f := rowD) k rfl none hk)) (xa_cons (xe_ix (xv 1) (xv 2) (itL (f := rowL) k rfl none hk)) xa_nil)) (sp__law_row_told F (fun l hl => hr l (by rw [← hl]; exact getD_mem' hk)))))) (by rfl), fun ht => xe_bl, by repeat (first | exact Wk.nil | refine Wk.same ?_ | refine Wk.drop ?_ | refine Wk.shl ?_ | refine Wk.shk ?_)⟩) ?_ ?_
  · intro a ha
    have := List.find?_some ha
    cases this
  · intro _
    refine xss_one (xs_ret ?_)
    exact xe_bl
theorem sp__law_stock_told (F : Wo W) {n : Nat} {st : Sm} (hf : st.length ≤ 1000) : RB W N__law_stock_told (defScope (top 98)) 3 (defBody (top 98)) 3 [stockD n st, .i (n : Int), .l (st.map pairL)] (.b true) := by
  refine ⟨rfl, _, .rt _, ?_⟩
  show XSs (W.ga N__law_stock_told (defScope (top 98)) 3) (defBody (top 98)) [.v (stockD n st), .v (.i (n : Int)), .v (.l (st.map pairL)), .no] _; refine xss_form ?_
  refine xss_ifX ⟨_, (XW.xt (xw_or (xt_not (xt_val (xe_isi F.n_isinstance (xv 0) (F.x_Stock rfl) (by constructor) (by constructor) (by first | rfl | exact kit_refl _ _) (by first | (intro c ds h; cases h; done) | (intro c ds h; cases h; first | exact F.ci1 | exact F.ci3))))) (fun hh2 => (xw_or (xt_not (xt_val (xe_call F.kn__law_whole (by dsimp only [Wd.ga, Ga.blk]; decide) (xa_cons (xe_fld F.cf1 0 (xv 0) rfl rfl) xa_nil) (sp__law_whole F)))) (fun hh1 => (xw_or1 (xt_ne (xe_fld F.cf1 0 (xv 0) rfl rfl) (xv 1) (by constructor)))))))), fun h => ?_, fun h => ?_⟩
  · simp at h
  refine .skip ?_
  refine xss_ifX ⟨_, (XW.xt (xw_or (xt_not (xt_val (xe_isi F.n_isinstance (xe_fld F.cf1 1 (xv 0) rfl rfl) (xe_bty (n := "tuple") F.n_tuple rfl (by decide +kernel)) (by constructor) (by constructor) (by first | rfl | exact kit_refl _ _) (by first | (intro c ds h; cases h; done) | (intro c ds h; cases h; first | exact F.ci1 | exact F.ci3))))) (fun hh1 => (xw_or1 (xt_ne (xe_len F.n_len (xe_fld F.cf1 1 (xv 0) rfl rfl) (by first | exact LenD.l _ | exact LenD.t _ | exact LenD.q _ | exact LenD.s _ (by first | omega | (simp; done) | (simp; omega) | assumption))) (xe_len F.n_len (xv 2) (by first | exact LenD.l _ | exact LenD.t _ | exact LenD.q _ | exact LenD.s _ (by first | omega | (simp; done) | (simp; omega) | assumption))) (by constructor)))))), fun h => ?_, fun h => ?_⟩
  · simp at h
  refine .skip ?_
  refine xss_findIf (l := List.range (st.map pairL).length) (f := fun k : Nat => .i (k : Int)) (test := fun k => false) (res := fun k => .b false) (xi_range F.n_range (xe_len F.n_len (xv 2) (by first | exact LenD.l _ | exact LenD.t _ | exact LenD.q _ | exact LenD.s _ (by first | omega | (simp; done) | (simp; omega) | assumption))) (by first | omega | (simp; done) | (simp; omega) | assumption)) (xg1 3 pt_) (fun k hm => have hk : k < st.length := (by simpa using List.mem_range.mp hm); ⟨_, putn 3, XT.eq (xt_not (xt_val (xe_call F.kn__law_row_told (by dsimp only [Wd.ga, Ga.blk]; decide) (xa_cons (xe_ix (xe_fld F.cf1 1 (xv 0) rfl rfl) (xv 3) (itT (f := pairT) k rfl default hk)) (xa_cons (xe_ix (xv 2) (xv 3) (itL (f := pairL) k rfl default hk)) xa_nil)) (sp__law_row_told F (r := some [(st.getD k default).1, (st.getD k default).2]) (fun l hl => by cases hl; simp))))) (by rfl), fun ht => xe_bl, by repeat (first | exact Wk.nil | refine Wk.same ?_ | refine Wk.drop ?_ | refine Wk.shl ?_ | refine Wk.shk ?_)⟩) ?_ ?_
  · intro a ha
    have := List.find?_some ha
    cases this
  · intro _
    refine xss_one (xs_ret ?_)
    exact xe_bl
theorem sp__law_copy (F : Wo W) {st : Sm} (hf : st.length ≤ 1000) : RB W N__law_copy (defScope (top 99)) 0 (defBody (top 99)) 1 [.l (st.map pairL)] (.l (st.map pairL)) := by
  refine ⟨rfl, _, .rt _, ?_⟩
  show XSs (W.ga N__law_copy (defScope (top 99)) 0) (defBody (top 99)) [.v (.l (st.map pairL)), .no] _; refine xss_form ?_
  refine xss_one (xs_ret ?_)
  exact (xe_lc (own := [("_law_pair", 1)]) lc_ (xi_any (xv 0) (by constructor)) (xg1 1 pt_) (by first | (simp [rangeD]; omega) | (simp; omega) | (simp; done)) (comp_map (g := pairL) (fun q hm => ⟨_, _, putn 1, (xe_lst (xa_cons (xe_ix (xv 1) xe_int (by first | exact itWT 0 rfl rfl | exact itW 0 rfl rfl | exact itS 0 rfl (by first | omega | (simp; done) | (simp; omega) | assumption) (by first | omega | (simp; done) | (simp; omega) | assumption) | exact itN 0 rfl (by first | omega | (simp; done) | (simp; omega) | assumption) | exact itI 0 rfl (by first | omega | (simp; done) | (simp; omega) | assumption) | exact itL 0 rfl default (by first | omega | (simp; done) | (simp; omega) | assumption) | exact itT 0 rfl default (by first | omega | (simp; done) | (simp; omega) | assumption))) (xa_cons (xe_ix (xv 1) xe_int (by first | exact itWT 1 rfl rfl | exact itW 1 rfl rfl | exact itS 1 rfl (by first | omega | (simp; done) | (simp; omega) | assumption) (by first | omega | (simp; done) | (simp; omega) | assumption) | exact itN 1 rfl (by first | omega | (simp; done) | (simp; omega) | assumption) | exact itI 1 rfl (by first | omega | (simp; done) | (simp; omega) | assumption) | exact itL 1 rfl default (by first | omega | (simp; done) | (simp; omega) | assumption) | exact itT 1 rfl default (by first | omega | (simp; done) | (simp; omega) | assumption))) xa_nil)) (by first | omega | (simp; done) | (simp; omega) | assumption)), by rfl⟩)))
theorem sp__law_tuples (F : Wo W) {st : Sm} (hf : st.length ≤ 1000) : RB W N__law_tuples (defScope (top 100)) 0 (defBody (top 100)) 1 [.l (st.map pairL)] (.t (st.map pairT)) := by
  refine ⟨rfl, _, .rt _, ?_⟩
  show XSs (W.ga N__law_tuples (defScope (top 100)) 0) (defBody (top 100)) [.v (.l (st.map pairL)), .no] _; refine xss_form ?_
  refine xss_one (xs_ret ?_)
  exact (xe_tupleL F.n_tuple (xe_lc (own := [("_law_pair", 1)]) lc_ (xi_any (xv 0) (by constructor)) (xg1 1 pt_) (by first | (simp [rangeD]; omega) | (simp; omega) | (simp; done)) (comp_map (g := pairT) (fun q hm => ⟨_, _, putn 1, (xe_tup (xa_cons (xe_ix (xv 1) xe_int (by first | exact itWT 0 rfl rfl | exact itW 0 rfl rfl | exact itS 0 rfl (by first | omega | (simp; done) | (simp; omega) | assumption) (by first | omega | (simp; done) | (simp; omega) | assumption) | exact itN 0 rfl (by first | omega | (simp; done) | (simp; omega) | assumption) | exact itI 0 rfl (by first | omega | (simp; done) | (simp; omega) | assumption) | exact itL 0 rfl default (by first | omega | (simp; done) | (simp; omega) | assumption) | exact itT 0 rfl default (by first | omega | (simp; done) | (simp; omega) | assumption))) (xa_cons (xe_ix (xv 1) xe_int (by first | exact itWT 1 rfl rfl | exact itW 1 rfl rfl | exact itS 1 rfl (by first | omega | (simp; done) | (simp; omega) | assumption) (by first | omega | (simp; done) | (simp; omega) | assumption) | exact itN 1 rfl (by first | omega | (simp; done) | (simp; omega) | assumption) | exact itI 1 rfl (by first | omega | (simp; done) | (simp; omega) | assumption) | exact itL 1 rfl default (by first | omega | (simp; done) | (simp; omega) | assumption) | exact itT 1 rfl default (by first | omega | (simp; done) | (simp; omega) | assumption))) xa_nil)) (by first | omega | (simp; done) | (simp; omega) | assumption)), by rfl⟩))))
end
end Q8
namespace Q8
open PySem L2 PyProof.Rows
theorem fold_snoc {α β : Type} (g : α → β) : ∀ (l : List α) (s : List β), l.foldl (fun s a => s ++ [g a]) s = s ++ l.map g
  | [], s => by simp
  | a :: l, s => by rw [List.foldl_cons, fold_snoc g l]; simp
/-- the names of the stamps that have no row -/
def lostF (st : Sm) (rows : List (Option (List Tx))) : List Tx := ((List.range st.length).filter fun k => (rows.getD k none).isNone).map fun k => (st.getD k default).1
theorem lost_miss : ∀ (st : Sm) (rows : List (Option (List Tx))), rows.length = st.length → (lostF st rows).head? = missF st rows ∧ decide (0 < (lostF st rows).length) = (missF st rows).isSome := by
  intro st
  induction st with
  | nil => intro rows h; cases rows <;> exact ⟨rfl, rfl⟩
  | cons q st ih =>
    intro rows h
    cases rows with
    | nil => cases h
    | cons r rows =>
      obtain ⟨h1, h2⟩ := ih rows (by simpa using h)
      have e : lostF (q :: st) (r :: rows) = (if r.isNone then [q.1] else []) ++ lostF st rows := by
        unfold lostF
        rw [List.length_cons, List.range_succ_eq_map, List.filter_cons, List.filter_map]
        cases r with
        | none =>
          simp only [List.getD_cons_zero, Option.isNone_none, if_true, List.map_cons, List.singleton_append, List.map_map]
          rfl
        | some l =>
          simp only [List.getD_cons_zero, Option.isNone_some, if_false, List.map_map, List.nil_append, Bool.false_eq_true]
          rfl
      have e2 : missF (q :: st) (r :: rows) = if r.isNone then some q.1 else missF st rows := by
        unfold missF namesT
        rw [List.map_cons, List.zip_cons_cons]
        cases r with
        | none => rw [List.find?_cons_of_pos (by rfl)]; rfl
        | some l => rw [List.find?_cons_of_neg (by simp)]; rfl
      rw [e, e2]
      cases r with
      | none => exact ⟨by simp, by simp⟩
      | some l => exact ⟨by simpa using h1, by simpa using h2⟩
theorem head_none (l : List Tx) : ((l.map D.s) ++ [.n])[0]? = some (nameD l.head?) := by cases l <;> rfl
theorem comp4 (a b : Bool) : ItemD (.l [.l [.s aliveT, .s [105, 110, 115, 105, 100, 101]], .l [.s [97, 114, 111, 117, 110, 100], .s [97, 112, 97, 114, 116]]]) (if a then 1 else 0) (.l [.s (wordF a false), .s (wordF a true)]) := by
  cases a
  · exact .l (by simp) rfl
  · exact .l (by simp) rfl
theorem comp4b (a b : Bool) : ItemD (.l [.s (wordF a false), .s (wordF a true)]) (if b then 1 else 0) (.s (wordF a b)) := by
  cases b
  · exact .l (by simp) rfl
  · exact .l (by simp) rfl
theorem cast_gt (n : Nat) : decide ((0 : Int) < (n : Int)) = decide (0 < n) := decide_eq_decide.mpr (by omega)
theorem XThen.nxX {Γ : Ga} {x rest : List Stmt} {env : List Sl} {out : Out} (h : ∃ e, XSs Γ x env (.nx e) ∧ XSs Γ rest e out) : XThen Γ x rest env out := by
  obtain ⟨e, h1, h2⟩ := h
  exact .nx h1 h2
section
variable {W : Wd}
theorem sp__law_strange (F : Wo W) {n : Nat} {L : List Tx} (hn : n ≤ 30) (hL : ∀ x ∈ L, x.length = n) (hl : L.length ≤ 1000) (hf : ∀ k, k < n → Free L k) : RB W N__law_strange (defScope (top 101)) 2 (defBody (top 101)) 2 [.i (n : Int), .l (L.map .s)] (.s (strangeF n L)) := by
  refine ⟨rfl, _, .rt _, ?_⟩
  show XSs (W.ga N__law_strange (defScope (top 101)) 2) (defBody (top 101)) [.v (.i (n : Int)), .v (.l (L.map .s)), .no, .no, .no, .no, .no, .no] _; refine xss_form ?_
  have hmt : marksT.length = 27 := rfl
  refine xss_setX 2 pt_ ⟨_, (xe_str (l := []) (by decide +kernel)), ?_⟩
  refine xss_foldN (S := Tx) (s := []) (l := List.range n) (f := fun k : Nat => .i (k : Int)) (step := fun s k => s ++ [strangeM L k]) (E := fun s => [.v (.i (n : Int)), .v (.l (L.map .s)), .v (.s s), .no, .no, .no, .no, .no]) (fun i s => s.length ≤ i) (Nat.le_refl 0) (xi_range F.n_range (xv 0) (by first | omega | (simp; done) | (simp; omega) | assumption)) (xg1 3 pt_) (fun i s k hqi hs => have hk : k < n := List.mem_range.mp (List.mem_of_getElem? hqi); have hil : i < n := (by simpa using (List.getElem?_eq_some_iff.mp hqi).1); ⟨by simp only [List.length_append, List.length_singleton]; omega, _, [.v (.i (n : Int)), .v (.l (L.map .s)), .v (.s (s ++ [strangeM L k])), .v (.i (k : Int)), .v (.l ((L.map fun x => [at_ x k]).map .s)), .v (.l ((marksT.reverse.filter fun m => decide (m ∉ L.map fun x => at_ x k)).map fun m => .s [m])), .no, .no], putn 3, ?_, by repeat (first | exact Wk.nil | refine Wk.same ?_ | refine Wk.drop ?_ | refine Wk.shl ?_ | refine Wk.shk ?_)⟩) fun _ => ?_
  · refine xss_form ?_
    refine xss_setX 4 pt_ ⟨_, (xe_lc (own := [("_law_layer", 6)]) lc_ (xi_any (xv 1) (by constructor)) (xg1 6 pt_) (by first | (simp [rangeD]; omega) | (simp; omega) | (simp; done)) (comp_mapS (g := fun x => [at_ x k]) (fun x hm => have hlx := hL x hm; ⟨_, _, putn 6, (xe_ix (xv 6) (xv 3) (by first | exact it2S | exact itS _ rfl (by first | omega | (simp; done) | (simp; omega) | assumption) (by first | omega | (simp; done) | (simp; omega) | assumption) | exact itN _ rfl (by first | omega | (simp; done) | (simp; omega) | assumption) | exact itI _ rfl (by first | omega | (simp; done) | (simp; omega) | assumption) | exact itL _ rfl default (by first | omega | (simp; done) | (simp; omega) | assumption) | exact itT _ rfl default (by first | omega | (simp; done) | (simp; omega) | assumption))), by rfl⟩))), ?_⟩
    refine xss_cons (xs_setLc 5 (own := [("_law_sign", 7)]) lc_ rfl rfl (fun _ => rfl) (xi_any (xe_str (l := marksT.reverse) (by decide +kernel)) (by constructor)) (xg1 7 pt_) (by first | (simp [rangeD]; omega) | (simp; omega) | (simp; done)) (comp_filter (g := fun m : Nat => .s [m]) (t := fun m => decide (m ∉ L.map fun x => at_ x k)) (fun m hm => ⟨_, putn 7, XT.eq (xt_notIn (xv 7) (xv 4) (by first | exact insN _ _ | exact insNl _ _ | exact InSq.sl _ _ | exact InSq.st _ _ | exact InSq.il _ _ | exact InSq.it _ _)) (by exact not_one m k L ), fun hf => ⟨_, (xv 7), by  rfl⟩⟩))) ?_
    refine xss_setX 2 pt_ ⟨_, (xe_plus (xv 2) (xe_ix (xv 5) xe_int (itL (f := fun m : Nat => .s [m]) 0 rfl 0 (free_pos (hf k hk)))) (by first | exact AddD.i _ _ | exact AddD.s _ _ (by first | omega | (simp; done) | (simp; omega) | assumption) | exact AddD.l _ _ (by first | omega | (simp; done) | (simp; omega) | assumption) | exact AddD.t _ _ (by first | omega | (simp; done) | (simp; omega) | assumption))), ?_⟩
    exact xss_nil
  refine xss_retX ⟨_, (xv 2), ?_⟩
  rw [fold_snoc, List.nil_append]
  rfl
theorem sp__law_compared (F : Wo W) {n : Nat} {a b : Sm} (ha : OkS n a) (hb : OkS n b) (hf : ∀ k, k < n → Free (layT a ++ layT b) k) : RB W N__law_compared (defScope (top 102)) 5 (defBody (top 102)) 3 [.i (n : Int), .l (a.map pairL), .l (b.map pairL)] (.l [.s (wordC a b), .l ((rowsF b a).map rowL), .l ((rowsF a b).map rowL), nameD (missA a b), nameD (missA b a), nameD (sheetC n a b)]) := by
  refine ⟨rfl, _, .rt _, ?_⟩
  show XSs (W.ga N__law_compared (defScope (top 102)) 5) (defBody (top 102)) [.v (.i (n : Int)), .v (.l (a.map pairL)), .v (.l (b.map pairL)), .no, .no, .no, .no, .no, .no, .no, .no] _; refine xss_form ?_
  have fa := ha.few
  have fb := hb.few
  have hn' := ha.hi
  have hn : n ≤ 1000 := by omega
  have hr1 : (rowsF b a).length = a.length := by simp [rowsF, layT]
  have hr2 : (rowsF a b).length = b.length := by simp [rowsF, layT]
  have er1 : (a.map fun q => rowL (madeF b q.2).1) = (rowsF b a).map rowL := by simp [rowsF, layT]
  have er2 : (b.map fun q => rowL (madeF a q.2).1) = (rowsF a b).map rowL := by simp [rowsF, layT]
  have hLL : ∀ x ∈ (a ++ b).map (·.2), x.length = n := fun x hx => by
    obtain ⟨q, hq, rfl⟩ := List.mem_map.mp hx
    rcases List.mem_append.mp hq with z | z
    · exact layL ha q z
    · exact layL hb q z
  have eab2 : (a ++ b).map (·.2) = layT a ++ layT b := by simp [layT]
  have hf' : ∀ k, k < n → Free ((a ++ b).map (·.2)) k := by rw [eab2]; exact hf
  refine xss_setX 3 pt_ ⟨_, (xe_lc (own := [("_law_pair", 9)]) lc_ (xi_any (xv 1) (by constructor)) (xg1 9 pt_) (by first | (simp [rangeD]; omega) | (simp; omega) | (simp; done)) (comp_map (g := fun q => rowL (madeF b q.2).1) (fun q hm => have hq := (layL ha q hm); ⟨_, _, putn 9, (xe_ix (xe_call F.kn__law_made (by dsimp only [Wd.ga, Ga.blk]; decide) (xa_cons (xv 2) (xa_cons (xe_ix (xv 9) xe_int (by first | exact itWT 1 rfl rfl | exact itW 1 rfl rfl | exact itS 1 rfl (by first | omega | (simp; done) | (simp; omega) | assumption) (by first | omega | (simp; done) | (simp; omega) | assumption) | exact itN 1 rfl (by first | omega | (simp; done) | (simp; omega) | assumption) | exact itI 1 rfl (by first | omega | (simp; done) | (simp; omega) | assumption) | exact itL 1 rfl default (by first | omega | (simp; done) | (simp; omega) | assumption) | exact itT 1 rfl default (by first | omega | (simp; done) | (simp; omega) | assumption))) xa_nil)) (sp__law_made F hn (layL hb) hq (by omega))) xe_int (by first | exact itWT 0 rfl rfl | exact itW 0 rfl rfl | exact itS 0 rfl (by first | omega | (simp; done) | (simp; omega) | assumption) (by first | omega | (simp; done) | (simp; omega) | assumption) | exact itN 0 rfl (by first | omega | (simp; done) | (simp; omega) | assumption) | exact itI 0 rfl (by first | omega | (simp; done) | (simp; omega) | assumption) | exact itL 0 rfl default (by first | omega | (simp; done) | (simp; omega) | assumption) | exact itT 0 rfl default (by first | omega | (simp; done) | (simp; omega) | assumption))), by rfl⟩))), ?_⟩
  rw [er1]
  refine xss_setX 4 pt_ ⟨_, (xe_lc (own := [("_law_pair", 9)]) lc_ (xi_any (xv 2) (by constructor)) (xg1 9 pt_) (by first | (simp [rangeD]; omega) | (simp; omega) | (simp; done)) (comp_map (g := fun q => rowL (madeF a q.2).1) (fun q hm => have hq := (layL hb q hm); ⟨_, _, putn 9, (xe_ix (xe_call F.kn__law_made (by dsimp only [Wd.ga, Ga.blk]; decide) (xa_cons (xv 1) (xa_cons (xe_ix (xv 9) xe_int (by first | exact itWT 1 rfl rfl | exact itW 1 rfl rfl | exact itS 1 rfl (by first | omega | (simp; done) | (simp; omega) | assumption) (by first | omega | (simp; done) | (simp; omega) | assumption) | exact itN 1 rfl (by first | omega | (simp; done) | (simp; omega) | assumption) | exact itI 1 rfl (by first | omega | (simp; done) | (simp; omega) | assumption) | exact itL 1 rfl default (by first | omega | (simp; done) | (simp; omega) | assumption) | exact itT 1 rfl default (by first | omega | (simp; done) | (simp; omega) | assumption))) xa_nil)) (sp__law_made F hn (layL ha) hq (by omega))) xe_int (by first | exact itWT 0 rfl rfl | exact itW 0 rfl rfl | exact itS 0 rfl (by first | omega | (simp; done) | (simp; omega) | assumption) (by first | omega | (simp; done) | (simp; omega) | assumption) | exact itN 0 rfl (by first | omega | (simp; done) | (simp; omega) | assumption) | exact itI 0 rfl (by first | omega | (simp; done) | (simp; omega) | assumption) | exact itL 0 rfl default (by first | omega | (simp; done) | (simp; omega) | assumption) | exact itT 0 rfl default (by first | omega | (simp; done) | (simp; omega) | assumption))), by rfl⟩))), ?_⟩
  rw [er2]
  refine xss_cons (xs_setLc 5 (own := [("_law_k", 10)]) lc_ rfl rfl (fun _ => rfl) (xi_range F.n_range (xe_len F.n_len (xv 1) (by first | exact LenD.l _ | exact LenD.t _ | exact LenD.q _ | exact LenD.s _ (by first | omega | (simp; done) | (simp; omega) | assumption))) (by first | omega | (simp; done) | (simp; omega) | assumption)) (xg1 10 pt_) (by first | (simp [rangeD]; omega) | (simp; omega) | (simp; done)) (comp_filterS (l := List.range (a.map pairL).length) (g := fun k => (a.getD k default).1) (t := fun k => ((rowsF b a).getD k none).isNone) (fun k hm => have hk : k < a.length := (by simpa using List.mem_range.mp hm); ⟨_, putn 10, XT.eq (xt_isN (xe_ix (xv 3) (xv 10) (itL (f := rowL) k rfl none (by simp [rowsF, layT]; omega)))) (by cases (rowsF b a).getD k none <;> rfl), fun hf => ⟨_, xe_ix (xe_ix (xv 1) (xv 10) (itL (f := pairL) k rfl default hk)) xe_int (itW 0 rfl rfl), rfl⟩⟩))) ?_
  refine xss_cons (xs_setLc 6 (own := [("_law_k", 10)]) lc_ rfl rfl (fun _ => rfl) (xi_range F.n_range (xe_len F.n_len (xv 2) (by first | exact LenD.l _ | exact LenD.t _ | exact LenD.q _ | exact LenD.s _ (by first | omega | (simp; done) | (simp; omega) | assumption))) (by first | omega | (simp; done) | (simp; omega) | assumption)) (xg1 10 pt_) (by first | (simp [rangeD]; omega) | (simp; omega) | (simp; done)) (comp_filterS (l := List.range (b.map pairL).length) (g := fun k => (b.getD k default).1) (t := fun k => ((rowsF a b).getD k none).isNone) (fun k hm => have hk : k < b.length := (by simpa using List.mem_range.mp hm); ⟨_, putn 10, XT.eq (xt_isN (xe_ix (xv 4) (xv 10) (itL (f := rowL) k rfl none (by simp [rowsF, layT]; omega)))) (by cases (rowsF a b).getD k none <;> rfl), fun hf => ⟨_, xe_ix (xe_ix (xv 2) (xv 10) (itL (f := pairL) k rfl default hk)) xe_int (itW 0 rfl rfl), rfl⟩⟩))) ?_
  have el1 : (((List.range (a.map pairL).length).filter fun k => ((rowsF b a).getD k none).isNone).map fun k => (a.getD k default).1) = lostF a (rowsF b a) := by simp [lostF]
  have el2 : (((List.range (b.map pairL).length).filter fun k => ((rowsF a b).getD k none).isNone).map fun k => (b.getD k default).1) = lostF b (rowsF a b) := by simp [lostF]
  rw [el1, el2]
  have hz1 : (lostF a (rowsF b a)).length ≤ 1000 := by unfold lostF; rw [List.length_map]; exact Nat.le_trans (List.length_filter_le _ _) (by simp; omega)
  have hz2 : (lostF b (rowsF a b)).length ≤ 1000 := by unfold lostF; rw [List.length_map]; exact Nat.le_trans (List.length_filter_le _ _) (by simp; omega)
  refine xss_setX 7 pt_ ⟨_, (xe_ix (xe_ix (xe_lst (xa_cons (xe_lst (xa_cons (xe_str (l := [97, 108, 105, 107, 101]) (by decide +kernel)) (xa_cons (xe_str (l := [105, 110, 115, 105, 100, 101]) (by decide +kernel)) xa_nil)) (by first | omega | (simp; done) | (simp; omega) | assumption)) (xa_cons (xe_lst (xa_cons (xe_str (l := [97, 114, 111, 117, 110, 100]) (by decide +kernel)) (xa_cons (xe_str (l := [97, 112, 97, 114, 116]) (by decide +kernel)) xa_nil)) (by first | omega | (simp; done) | (simp; omega) | assumption)) xa_nil)) (by first | omega | (simp; done) | (simp; omega) | assumption)) (XE.eq (xe_int1 F.n_int (xe_gt (xe_len F.n_len (xv 5) (by first | exact LenD.l _ | exact LenD.t _ | exact LenD.q _ | exact LenD.s _ (by first | omega | (simp; done) | (simp; omega) | assumption))) xe_int) (by constructor)) (d' := .i (if (missA a b).isSome then 1 else 0)) (by rw [cast_gt, List.length_map, (lost_miss a _ hr1).2]; rfl)) (comp4 _ true)) (XE.eq (xe_int1 F.n_int (xe_gt (xe_len F.n_len (xv 6) (by first | exact LenD.l _ | exact LenD.t _ | exact LenD.q _ | exact LenD.s _ (by first | omega | (simp; done) | (simp; omega) | assumption))) xe_int) (by constructor)) (d' := .i (if (missA b a).isSome then 1 else 0)) (by rw [cast_gt, List.length_map, (lost_miss b _ hr2).2]; rfl)) (comp4b _ _)), ?_⟩
  refine xss_setX 8 pt_ ⟨_, xe_non, ?_⟩
  have ew : wordF (missA a b).isSome (missA b a).isSome = wordC a b := rfl
  have e7 : (lostF a (rowsF b a)).head? = missA a b := (lost_miss a _ hr1).1
  have e8 : (lostF b (rowsF a b)).head? = missA b a := (lost_miss b _ hr2).1
  rw [ew]
  refine xss_ifX ⟨_, (xt_ne (xv 7) (xe_str (l := [97, 108, 105, 107, 101]) (by decide +kernel)) (by constructor)), fun h => ?_, fun h => ?_⟩
  · have hw : wordC a b ≠ aliveT := by simpa [aliveT] using h
    refine XThen.nxX ⟨_, xss_setX 8 pt_ ⟨_, (xe_call F.kn__law_strange (by dsimp only [Wd.ga, Ga.blk]; decide) (xa_cons (xv 0) (xa_cons (xe_lc (own := [("_law_pair", 9)]) lc_ (xi_any (XE.eq (xe_plus (xv 1) (xv 2) (AddD.l _ _ (by simp; omega))) (d' := .l ((a ++ b).map pairL)) (by rw [List.map_append])) (by constructor)) (xg1 9 pt_) (by first | (simp [rangeD]; omega) | (simp; omega) | (simp; done)) (comp_mapS (g := fun q : Tx × Tx => q.2) (fun q hm => ⟨_, _, putn 9, (xe_ix (xv 9) xe_int (by first | exact itWT 1 rfl rfl | exact itW 1 rfl rfl | exact itS 1 rfl (by first | omega | (simp; done) | (simp; omega) | assumption) (by first | omega | (simp; done) | (simp; omega) | assumption) | exact itN 1 rfl (by first | omega | (simp; done) | (simp; omega) | assumption) | exact itI 1 rfl (by first | omega | (simp; done) | (simp; omega) | assumption) | exact itL 1 rfl default (by first | omega | (simp; done) | (simp; omega) | assumption) | exact itT 1 rfl default (by first | omega | (simp; done) | (simp; omega) | assumption))), by rfl⟩))) xa_nil)) ((sp__law_strange F hn' hLL (by simp; omega) hf'))), xss_nil⟩, ?_⟩
    refine xss_retX ⟨_, (xe_lst (xa_cons (xv 7) (xa_cons (xv 3) (xa_cons (xv 4) (xa_cons (xe_ix (xe_plus (xv 5) (xe_lst (xa_cons xe_non xa_nil) (by first | omega | (simp; done) | (simp; omega) | assumption)) (AddD.l _ _ (by simp; omega))) xe_int (itW 0 rfl (head_none _))) (xa_cons (xe_ix (xe_plus (xv 6) (xe_lst (xa_cons xe_non xa_nil) (by first | omega | (simp; done) | (simp; omega) | assumption)) (AddD.l _ _ (by simp; omega))) xe_int (itW 0 rfl (head_none _))) (xa_cons (xv 8) xa_nil)))))) (by first | omega | (simp; done) | (simp; omega) | assumption)), ?_⟩
    rw [e7, e8]
    simp [sheetC, hw, eab2, nameD]
  refine .skip ?_
  have hw : wordC a b = aliveT := by simpa [aliveT] using h
  refine xss_retX ⟨_, (xe_lst (xa_cons (xv 7) (xa_cons (xv 3) (xa_cons (xv 4) (xa_cons (xe_ix (xe_plus (xv 5) (xe_lst (xa_cons xe_non xa_nil) (by first | omega | (simp; done) | (simp; omega) | assumption)) (AddD.l _ _ (by simp; omega))) xe_int (itW 0 rfl (head_none _))) (xa_cons (xe_ix (xe_plus (xv 6) (xe_lst (xa_cons xe_non xa_nil) (by first | omega | (simp; done) | (simp; omega) | assumption)) (AddD.l _ _ (by simp; omega))) xe_int (itW 0 rfl (head_none _))) (xa_cons (xv 8) xa_nil)))))) (by first | omega | (simp; done) | (simp; omega) | assumption)), ?_⟩
  rw [e7, e8]
  simp [sheetC, hw, nameD]
/-! ### shown, right -/
/-- a missing stamp is shown missing -/
def ShownOk (n : Nat) (st ot : Sm) (m sh : Option Tx) : Prop := ∀ x, m = some x → x ∈ namesT st ∧ ∃ Y, sh = some Y ∧ Y.length = n ∧ agreeF Y (peelS ot (pressF Y (lookL st x))).2 = false
theorem sp__law_shown (F : Wo W) {n : Nat} {st ot : Sm} {m sh : Option Tx} (hn : n ≤ 1000) (hLs : ∀ {x}, x ∈ namesT st → (lookL st x).length = n) (hLo : ∀ q ∈ ot, q.2.length = n) (hfo : ot.length ≤ 1000) (hs : ShownOk n st ot m sh) : RB W N__law_shown (defScope (top 104)) 4 (defBody (top 104)) 4 [.l (st.map pairL), .l (ot.map pairL), nameD m, nameD sh] (.b true) := by
  refine ⟨rfl, _, .rt _, ?_⟩
  show XSs (W.ga N__law_shown (defScope (top 104)) 4) (defBody (top 104)) [.v (.l (st.map pairL)), .v (.l (ot.map pairL)), .v (nameD m), .v (nameD sh), .no] _; refine xss_form ?_
  cases m with
  | none =>
    refine xss_ifX ⟨_, (xt_isN (xv 2)), fun h => ?_, fun h => ?_⟩
    · refine .ret ?_
      refine xss_one (xs_ret ?_)
      exact xe_bl
    · cases h
  | some x =>
    obtain ⟨h1, Y, rfl, h2, h3⟩ := hs x rfl
    refine xss_ifX ⟨_, (xt_isN (xv 2)), fun h => ?_, fun h => ?_⟩
    · cases h
    refine .skip ?_
    refine xss_setX 4 pt_ ⟨_, (xe_call F.kn__law_press (by dsimp only [Wd.ga, Ga.blk]; decide) (xa_cons (xv 3) (xa_cons (xe_call F.kn__law_layer_of (by dsimp only [Wd.ga, Ga.blk]; decide) (xa_cons (xv 0) (xa_cons (xv 2) xa_nil)) (sp__law_layer_of F (look_mem h1).1)) xa_nil)) (sp__law_press F (by omega) (by rw [hLs h1, h2]))), ?_⟩
    refine xss_retX ⟨_, (xe_not (xe_call F.kn__law_agree (by dsimp only [Wd.ga, Ga.blk]; decide) (xa_cons (xv 3) (xa_cons (xe_ix (xe_call F.kn__law_peel (by dsimp only [Wd.ga, Ga.blk]; decide) (xa_cons (xv 1) (xa_cons (xv 4) xa_nil)) (sp__law_peel F (by rw [pressF_len]; omega) hfo (fun q hq => by rw [pressF_len, h2]; exact hLo q hq))) xe_int (itW 1 rfl rfl)) xa_nil)) (sp__law_agree F (by omega) (by rw [peelS, peelF_len, pressF_len])))), ?_⟩
    rw [h3]; rfl
/-- the rows of a told answer are right -/
def RowsOk (n : Nat) (mk st : Sm) (rows : List (Option (List Tx))) : Prop := rows.length = st.length ∧ ∀ k, k < st.length → ∀ l, rows.getD k none = some l → RowOk n mk l (st.getD k default).2
theorem look_names {n : Nat} {st : Sm} (hs : OkS n st) : ∀ y ∈ namesT st, (lookL st y).length = n := fun y hy => look_len hs hy
theorem rows_few {n : Nat} {mk st : Sm} {rows : List (Option (List Tx))} (h : RowsOk n mk st rows) : ∀ l, some l ∈ rows → l.length ≤ 1000 := fun l hl => by
  obtain ⟨k, hk, e⟩ := List.mem_iff_getElem.mp hl
  have := h.2 k (by rw [← h.1]; exact hk) l (by rw [List.getD_eq_getElem?_getD, List.getElem?_eq_getElem hk, e]; rfl)
  exact this.few
theorem sp__law_right (F : Wo W) {n : Nat} {a b : Sm} (ha : OkS n a) (hb : OkS n b) (hf : ∀ k, k < n → Free (layT a ++ layT b) k) (h1 : RowsOk n b a (rowsF b a)) (h2 : RowsOk n a b (rowsF a b)) (s1 : ShownOk n a b (missA a b) (sheetC n a b)) (s2 : ShownOk n b a (missA b a) (sheetC n a b)) : RB W N__law_right (defScope (top 105)) 6 (defBody (top 105)) 4 [compD n a b, .i (n : Int), .l (a.map pairL), .l (b.map pairL)] (.b true) := by
  refine ⟨rfl, _, .rt _, ?_⟩
  show XSs (W.ga N__law_right (defScope (top 105)) 6) (defBody (top 105)) [.v (compD n a b), .v (.i (n : Int)), .v (.l (a.map pairL)), .v (.l (b.map pairL)), .no, .no] _; refine xss_form ?_
  have fa := ha.few
  have fb := hb.few
  have hn' := ha.hi
  have hn : n ≤ 1000 := by omega
  refine xss_setX 4 pt_ ⟨_, (xe_call F.kn__law_compared (by dsimp only [Wd.ga, Ga.blk]; decide) (xa_cons (xv 1) (xa_cons (xv 2) (xa_cons (xv 3) xa_nil))) (sp__law_compared F ha hb hf)), ?_⟩
  refine xss_ifX ⟨_, (xt_not (xt_val (xe_isi F.n_isinstance (xv 0) (F.x_Comparison rfl) (by constructor) (by constructor) (by first | rfl | exact kit_refl _ _) (by first | (intro c ds h; cases h; done) | (intro c ds h; cases h; first | exact F.ci1 | exact F.ci3))))), fun h => ?_, fun h => ?_⟩
  · cases h
  refine .skip ?_
  refine xss_ifX ⟨_, (XW.xt (xw_or (xt_not (xt_val (xe_call F.kn__law_text_told (by dsimp only [Wd.ga, Ga.blk]; decide) (xa_cons (xe_fld F.cf3 0 (xv 0) rfl rfl) (xa_cons (xe_ix (xv 4) xe_int (by first | exact itWT 0 rfl rfl | exact itW 0 rfl rfl | exact itS 0 rfl (by first | omega | (simp; done) | (simp; omega) | assumption) (by first | omega | (simp; done) | (simp; omega) | assumption) | exact itN 0 rfl (by first | omega | (simp; done) | (simp; omega) | assumption) | exact itI 0 rfl (by first | omega | (simp; done) | (simp; omega) | assumption) | exact itL 0 rfl default (by first | omega | (simp; done) | (simp; omega) | assumption) | exact itT 0 rfl default (by first | omega | (simp; done) | (simp; omega) | assumption))) xa_nil)) (sp__law_text_told F (m := some (wordC a b)))))) (fun hh1 => (xw_or1 (xt_not (xt_val (xe_call F.kn__law_text_told (by dsimp only [Wd.ga, Ga.blk]; decide) (xa_cons (xe_fld F.cf3 5 (xv 0) rfl rfl) (xa_cons (xe_ix (xv 4) xe_int (by first | exact itWT 5 rfl rfl | exact itW 5 rfl rfl | exact itS 5 rfl (by first | omega | (simp; done) | (simp; omega) | assumption) (by first | omega | (simp; done) | (simp; omega) | assumption) | exact itN 5 rfl (by first | omega | (simp; done) | (simp; omega) | assumption) | exact itI 5 rfl (by first | omega | (simp; done) | (simp; omega) | assumption) | exact itL 5 rfl default (by first | omega | (simp; done) | (simp; omega) | assumption) | exact itT 5 rfl default (by first | omega | (simp; done) | (simp; omega) | assumption))) xa_nil)) (sp__law_text_told F)))))))), fun h => ?_, fun h => ?_⟩
  · cases h
  refine .skip ?_
  refine xss_ifX ⟨_, (XW.xt (xw_or (xt_not (xt_val (xe_call F.kn__law_rows_told (by dsimp only [Wd.ga, Ga.blk]; decide) (xa_cons (xe_fld F.cf3 1 (xv 0) rfl rfl) (xa_cons (xe_ix (xv 4) xe_int (by first | exact itWT 1 rfl rfl | exact itW 1 rfl rfl | exact itS 1 rfl (by first | omega | (simp; done) | (simp; omega) | assumption) (by first | omega | (simp; done) | (simp; omega) | assumption) | exact itN 1 rfl (by first | omega | (simp; done) | (simp; omega) | assumption) | exact itI 1 rfl (by first | omega | (simp; done) | (simp; omega) | assumption) | exact itL 1 rfl default (by first | omega | (simp; done) | (simp; omega) | assumption) | exact itT 1 rfl default (by first | omega | (simp; done) | (simp; omega) | assumption))) xa_nil)) (sp__law_rows_told F (by rw [h1.1]; omega) (rows_few h1))))) (fun hh1 => (xw_or1 (xt_not (xt_val (xe_call F.kn__law_rows_told (by dsimp only [Wd.ga, Ga.blk]; decide) (xa_cons (xe_fld F.cf3 2 (xv 0) rfl rfl) (xa_cons (xe_ix (xv 4) xe_int (by first | exact itWT 2 rfl rfl | exact itW 2 rfl rfl | exact itS 2 rfl (by first | omega | (simp; done) | (simp; omega) | assumption) (by first | omega | (simp; done) | (simp; omega) | assumption) | exact itN 2 rfl (by first | omega | (simp; done) | (simp; omega) | assumption) | exact itI 2 rfl (by first | omega | (simp; done) | (simp; omega) | assumption) | exact itL 2 rfl default (by first | omega | (simp; done) | (simp; omega) | assumption) | exact itT 2 rfl default (by first | omega | (simp; done) | (simp; omega) | assumption))) xa_nil)) (sp__law_rows_told F (by rw [h2.1]; omega) (rows_few h2))))))))), fun h => ?_, fun h => ?_⟩
  · cases h
  refine .skip ?_
  refine xss_ifX ⟨_, (XW.xt (xw_or (xt_not (xt_val (xe_call F.kn__law_text_told (by dsimp only [Wd.ga, Ga.blk]; decide) (xa_cons (xe_fld F.cf3 3 (xv 0) rfl rfl) (xa_cons (xe_ix (xv 4) xe_int (by first | exact itWT 3 rfl rfl | exact itW 3 rfl rfl | exact itS 3 rfl (by first | omega | (simp; done) | (simp; omega) | assumption) (by first | omega | (simp; done) | (simp; omega) | assumption) | exact itN 3 rfl (by first | omega | (simp; done) | (simp; omega) | assumption) | exact itI 3 rfl (by first | omega | (simp; done) | (simp; omega) | assumption) | exact itL 3 rfl default (by first | omega | (simp; done) | (simp; omega) | assumption) | exact itT 3 rfl default (by first | omega | (simp; done) | (simp; omega) | assumption))) xa_nil)) (sp__law_text_told F)))) (fun hh1 => (xw_or1 (xt_not (xt_val (xe_call F.kn__law_text_told (by dsimp only [Wd.ga, Ga.blk]; decide) (xa_cons (xe_fld F.cf3 4 (xv 0) rfl rfl) (xa_cons (xe_ix (xv 4) xe_int (by first | exact itWT 4 rfl rfl | exact itW 4 rfl rfl | exact itS 4 rfl (by first | omega | (simp; done) | (simp; omega) | assumption) (by first | omega | (simp; done) | (simp; omega) | assumption) | exact itN 4 rfl (by first | omega | (simp; done) | (simp; omega) | assumption) | exact itI 4 rfl (by first | omega | (simp; done) | (simp; omega) | assumption) | exact itL 4 rfl default (by first | omega | (simp; done) | (simp; omega) | assumption) | exact itT 4 rfl default (by first | omega | (simp; done) | (simp; omega) | assumption))) xa_nil)) (sp__law_text_told F)))))))), fun h => ?_, fun h => ?_⟩
  · cases h
  refine .skip ?_
  refine xss_findIf (l := List.range (a.map pairL).length) (f := fun k : Nat => .i (k : Int)) (test := fun _ => false) (res := fun _ => .b false) (xi_range F.n_range (xe_len F.n_len (xv 2) (by first | exact LenD.l _ | exact LenD.t _ | exact LenD.q _ | exact LenD.s _ (by first | omega | (simp; done) | (simp; omega) | assumption))) (by first | omega | (simp; done) | (simp; omega) | assumption)) (xg1 5 pt_) (fun k hm => ⟨_, putn 5, ?_, (fun ht => nomatch ht), by repeat (first | exact Wk.nil | refine Wk.same ?_ | refine Wk.drop ?_ | refine Wk.shl ?_ | refine Wk.shk ?_)⟩) ?_ ?_
  · have hk : k < a.length := by simpa using List.mem_range.mp hm
    have hk' : k < (rowsF b a).length := by rw [h1.1]; exact hk
    rcases hrk : (rowsF b a).getD k none with _ | l
    · exact XT.eq (XW.xt (xw_and (t := false) (u := false) (XT.eq (xt_notN (xe_ix (xe_fld F.cf3 1 (xv 0) rfl rfl) (xv 5) (itT (f := rowD) k rfl none hk'))) (by rw [hrk]; rfl)) (fun z => nomatch z))) rfl
    · have hro := h1.2 k hk l hrk
      exact XT.eq (XW.xt (xw_and (t := true) (u := false) (XT.eq (xt_notN (xe_ix (xe_fld F.cf3 1 (xv 0) rfl rfl) (xv 5) (itT (f := rowD) k rfl none hk'))) (by rw [hrk]; rfl)) (fun _ => xw_and1 (XT.eq (xt_ne (xe_call F.kn__law_net (by dsimp only [Wd.ga, Ga.blk]; decide) (xa_cons (xv 1) (xa_cons (xv 3) (xa_cons (XE.eq (xe_ix (xe_fld F.cf3 1 (xv 0) rfl rfl) (xv 5) (itT (f := rowD) k rfl none hk')) (d' := .t (l.map .s)) (by rw [hrk]; rfl)) xa_nil))) (sp__law_net F hn hro.mem (look_names hb))) (xe_ix (xe_ix (xv 2) (xv 5) (itL (f := pairL) k rfl default hk)) xe_int (itW 1 rfl rfl)) (ScEq.s _ _)) (by rw [hro.net]; simp))))) rfl
  · intro q hq
    have := List.find?_some hq
    cases this
  intro _
  refine xss_findIf (l := List.range (b.map pairL).length) (f := fun k : Nat => .i (k : Int)) (test := fun _ => false) (res := fun _ => .b false) (xi_range F.n_range (xe_len F.n_len (xv 3) (by first | exact LenD.l _ | exact LenD.t _ | exact LenD.q _ | exact LenD.s _ (by first | omega | (simp; done) | (simp; omega) | assumption))) (by first | omega | (simp; done) | (simp; omega) | assumption)) (xg1 5 pt_) (fun k hm => ⟨_, putn 5, ?_, (fun ht => nomatch ht), by repeat (first | exact Wk.nil | refine Wk.same ?_ | refine Wk.drop ?_ | refine Wk.shl ?_ | refine Wk.shk ?_)⟩) ?_ ?_
  · have hk : k < b.length := by simpa using List.mem_range.mp hm
    have hk' : k < (rowsF a b).length := by rw [h2.1]; exact hk
    rcases hrk : (rowsF a b).getD k none with _ | l
    · exact XT.eq (XW.xt (xw_and (t := false) (u := false) (XT.eq (xt_notN (xe_ix (xe_fld F.cf3 2 (xv 0) rfl rfl) (xv 5) (itT (f := rowD) k rfl none hk'))) (by rw [hrk]; rfl)) (fun z => nomatch z))) rfl
    · have hro := h2.2 k hk l hrk
      exact XT.eq (XW.xt (xw_and (t := true) (u := false) (XT.eq (xt_notN (xe_ix (xe_fld F.cf3 2 (xv 0) rfl rfl) (xv 5) (itT (f := rowD) k rfl none hk'))) (by rw [hrk]; rfl)) (fun _ => xw_and1 (XT.eq (xt_ne (xe_call F.kn__law_net (by dsimp only [Wd.ga, Ga.blk]; decide) (xa_cons (xv 1) (xa_cons (xv 2) (xa_cons (XE.eq (xe_ix (xe_fld F.cf3 2 (xv 0) rfl rfl) (xv 5) (itT (f := rowD) k rfl none hk')) (d' := .t (l.map .s)) (by rw [hrk]; rfl)) xa_nil))) (sp__law_net F hn hro.mem (look_names ha))) (xe_ix (xe_ix (xv 3) (xv 5) (itL (f := pairL) k rfl default hk)) xe_int (itW 1 rfl rfl)) (ScEq.s _ _)) (by rw [hro.net]; simp))))) rfl
  · intro q hq
    have := List.find?_some hq
    cases this
  intro _
  refine xss_retX ⟨_, (xe_and (xe_call F.kn__law_shown (by dsimp only [Wd.ga, Ga.blk]; decide) (xa_cons (xv 2) (xa_cons (xv 3) (xa_cons (xe_fld F.cf3 3 (xv 0) rfl rfl) (xa_cons (xe_fld F.cf3 5 (xv 0) rfl rfl) xa_nil)))) (sp__law_shown F hn (fun h => look_len ha h) (layL hb) (by omega) s1)) (fun hh1 => (xe_bool1 (xe_call F.kn__law_shown (by dsimp only [Wd.ga, Ga.blk]; decide) (xa_cons (xv 3) (xa_cons (xv 2) (xa_cons (xe_fld F.cf3 4 (xv 0) rfl rfl) (xa_cons (xe_fld F.cf3 5 (xv 0) rfl rfl) xa_nil)))) (sp__law_shown F hn (fun h => look_len hb h) (layL ha) (by omega) s2))))), ?_⟩
  rfl
end
end Q8
namespace Q8
open PySem L2 PyProof.Rows
/-! ### sheets that are reached, level by level -/
def keysD (k : List Tx) : List (Tx × D) := k.map fun y => (y, .i 0)
def addF (s : List Tx × List Tx) (y : Tx) : List Tx × List Tx := if y ∈ s.1 then s else (s.1 ++ [y], s.2 ++ [y])
def rowT (st : Sm) (x : Tx) (s : List Tx × List Tx) : List Tx × List Tx := st.foldl (fun s q => addF s (pressF x q.2)) s
def turnF (st : Sm) (k l : List Tx) : List Tx × List Tx := l.foldl (fun s x => rowT st x s) (k, [])
def bfs (st : Sm) : Nat → List Tx → List Tx → List Tx
  | 0, k, _ => k
  | n + 1, k, l => if (turnF st k l).2 = [] then (turnF st k l).1 else bfs st n (turnF st k l).1 (turnF st k l).2
inductive BfsAt (st : Sm) (x : Tx) : Nat → List Tx → List Tx → Prop
  | zero : BfsAt st x 0 [x] [x]
  | succ {t : Nat} {k l : List Tx} : BfsAt st x t k l → (turnF st k l).2 ≠ [] → BfsAt st x (t + 1) (turnF st k l).1 (turnF st k l).2
theorem getD_keys (k : List Tx) (y : Tx) : (getD (keysD k) y).isSome = decide (y ∈ k) := by
  unfold getD keysD
  rw [List.find?_map, Option.map_map, Option.isSome_map, Bool.eq_iff_iff, List.find?_isSome, decide_eq_true_eq]
  constructor
  · rintro ⟨z, hz, e⟩
    have : z = y := by simpa using e
    exact this ▸ hz
  · exact fun h => ⟨y, h, by simp⟩
theorem put_keys {k : List Tx} {y : Tx} (h : y ∉ k) : putD (keysD k) y (.i 0) = keysD (k ++ [y]) := by
  have : ((keysD k).any fun kv => decide (kv.1 = y)) = false := by
    rw [List.any_eq_false]
    intro kv hkv
    obtain ⟨z, hz, rfl⟩ := List.mem_map.mp hkv
    simp only [decide_eq_true_eq]
    rintro rfl
    exact h hz
  unfold putD
  rw [this]
  simp [keysD]
theorem addF_len (s : List Tx × List Tx) (y : Tx) : (addF s y).1.length ≤ s.1.length + 1 ∧ (addF s y).2.length ≤ s.2.length + 1 := by
  unfold addF
  split <;> simp
theorem rowT_len : ∀ (st : Sm) (x : Tx) (s : List Tx × List Tx), (rowT st x s).1.length ≤ s.1.length + st.length ∧ (rowT st x s).2.length ≤ s.2.length + st.length
  | [], x, s => by simp [rowT]
  | q :: st, x, s => by
    have h1 := addF_len s (pressF x q.2)
    have h2 := rowT_len st x (addF s (pressF x q.2))
    have e : rowT (q :: st) x s = rowT st x (addF s (pressF x q.2)) := rfl
    rw [e]
    simp only [List.length_cons]
    omega
theorem addF_1 {s : List Tx × List Tx} {y z : Tx} : y ∈ (addF s z).1 ↔ y ∈ s.1 ∨ y = z := by
  unfold addF
  by_cases h : z ∈ s.1
  · rw [if_pos h]
    exact ⟨.inl, fun h' => h'.elim id fun e => e ▸ h⟩
  · rw [if_neg h]; simp
theorem addF_2 {s : List Tx × List Tx} {y z : Tx} : y ∈ (addF s z).2 ↔ y ∈ s.2 ∨ (y ∉ s.1 ∧ y = z) := by
  unfold addF
  by_cases h : z ∈ s.1
  · rw [if_pos h]
    exact ⟨.inl, fun h' => h'.elim id fun e => absurd (e.2 ▸ h) e.1⟩
  · rw [if_neg h]
    simp only [List.mem_append, List.mem_singleton]
    exact ⟨fun h' => h'.imp id fun e => ⟨by rw [e]; exact h, e⟩, fun h' => h'.imp id fun e => e.2⟩
theorem rowT_1 {y x : Tx} : ∀ {st : Sm} {s : List Tx × List Tx}, y ∈ (rowT st x s).1 ↔ y ∈ s.1 ∨ ∃ q ∈ st, y = pressF x q.2
  | [], s => by simp [rowT]
  | q :: st, s => by
    show y ∈ (rowT st x (addF s (pressF x q.2))).1 ↔ _
    rw [rowT_1, addF_1]
    constructor
    · rintro ((h | h) | ⟨p, hp, e⟩)
      · exact .inl h
      · exact .inr ⟨q, List.mem_cons_self, h⟩
      · exact .inr ⟨p, List.mem_cons_of_mem _ hp, e⟩
    · rintro (h | ⟨p, hp, e⟩)
      · exact .inl (.inl h)
      · rcases List.mem_cons.mp hp with rfl | hp
        · exact .inl (.inr e)
        · exact .inr ⟨p, hp, e⟩
theorem rowT_2 {y x : Tx} : ∀ {st : Sm} {s : List Tx × List Tx}, y ∈ (rowT st x s).2 ↔ y ∈ s.2 ∨ (y ∉ s.1 ∧ ∃ q ∈ st, y = pressF x q.2)
  | [], s => by simp [rowT]
  | q :: st, s => by
    show y ∈ (rowT st x (addF s (pressF x q.2))).2 ↔ _
    rw [rowT_2, addF_2, addF_1]
    constructor
    · rintro ((h | ⟨h, e⟩) | ⟨h, p, hp, e⟩)
      · exact .inl h
      · exact .inr ⟨h, q, List.mem_cons_self, e⟩
      · exact .inr ⟨fun z => h (.inl z), p, List.mem_cons_of_mem _ hp, e⟩
    · rintro (h | ⟨h, p, hp, e⟩)
      · exact .inl (.inl h)
      · by_cases c : y = pressF x q.2
        · exact .inl (.inr ⟨h, c⟩)
        · rcases List.mem_cons.mp hp with rfl | hp
          · exact absurd e c
          · exact .inr ⟨fun z => z.elim h c, p, hp, e⟩
theorem turnG_1 {st : Sm} {y : Tx} : ∀ {l : List Tx} {s : List Tx × List Tx}, y ∈ (l.foldl (fun s x => rowT st x s) s).1 ↔ y ∈ s.1 ∨ ∃ x ∈ l, ∃ q ∈ st, y = pressF x q.2
  | [], s => by simp
  | x :: l, s => by
    rw [List.foldl_cons, turnG_1, rowT_1]
    constructor
    · rintro ((h | h) | ⟨p, hp, e⟩)
      · exact .inl h
      · exact .inr ⟨x, List.mem_cons_self, h⟩
      · exact .inr ⟨p, List.mem_cons_of_mem _ hp, e⟩
    · rintro (h | ⟨p, hp, e⟩)
      · exact .inl (.inl h)
      · rcases List.mem_cons.mp hp with rfl | hp
        · exact .inl (.inr e)
        · exact .inr ⟨p, hp, e⟩
theorem turnG_2 {st : Sm} {y : Tx} : ∀ {l : List Tx} {s : List Tx × List Tx}, y ∈ (l.foldl (fun s x => rowT st x s) s).2 ↔ y ∈ s.2 ∨ (y ∉ s.1 ∧ ∃ x ∈ l, ∃ q ∈ st, y = pressF x q.2)
  | [], s => by simp
  | x :: l, s => by
    rw [List.foldl_cons, turnG_2, rowT_2, rowT_1]
    constructor
    · rintro ((h | ⟨h, e⟩) | ⟨h, p, hp, e⟩)
      · exact .inl h
      · exact .inr ⟨h, x, List.mem_cons_self, e⟩
      · exact .inr ⟨fun z => h (.inl z), p, List.mem_cons_of_mem _ hp, e⟩
    · rintro (h | ⟨h, p, hp, e⟩)
      · exact .inl (.inl h)
      · by_cases c : ∃ q ∈ st, y = pressF x q.2
        · exact .inl (.inr ⟨h, c⟩)
        · rcases List.mem_cons.mp hp with rfl | hp
          · exact absurd e c
          · exact .inr ⟨fun z => z.elim h c, p, hp, e⟩
theorem turnF_1 {st : Sm} {y : Tx} {k l : List Tx} : y ∈ (turnF st k l).1 ↔ y ∈ k ∨ ∃ x ∈ l, ∃ q ∈ st, y = pressF x q.2 := turnG_1
theorem turnF_2 {st : Sm} {y : Tx} {k l : List Tx} : y ∈ (turnF st k l).2 ↔ y ∉ k ∧ ∃ x ∈ l, ∃ q ∈ st, y = pressF x q.2 := by
  have := turnG_2 (st := st) (y := y) (l := l) (s := (k, []))
  unfold turnF
  simpa using this
section
variable {W : Wd}
theorem sp__law_reached (F : Wo W) {n : Nat} {st : Sm} {x : Tx} (hn : n ≤ 1000) (hL : ∀ q ∈ st, q.2.length = n) (hx : x.length = n) (hb : ∀ t k l, BfsAt st x t k l → k.length + l.length * st.length < 16000000) : RB W N__law_reached (defScope (top 106)) 3 (defBody (top 106)) 2 [.l (st.map pairL), .s x] (.k (keysD (bfs st 1000000 [x] [x]))) := by
  refine ⟨rfl, _, .rt _, ?_⟩
  show XSs (W.ga N__law_reached (defScope (top 106)) 3) (defBody (top 106)) [.v (.l (st.map pairL)), .v (.s x), .no, .no, .no, .no, .no, .no, .no] _; refine xss_form ?_
  refine xss_cons (xs_setN 2 (xn_disp (xv 1) xe_int rfl) pt_ (by simp)) ?_
  refine xss_setX 3 pt_ ⟨_, (xe_lst (xa_cons (xv 1) xa_nil) (by first | omega | (simp; done) | (simp; omega) | assumption)), ?_⟩
  have key : ∀ (ds : List Nat) (t : Nat) (k l : List Tx), BfsAt st x t k l → (∀ y ∈ l, y.length = n) → ∃ e', Loop (W.ga N__law_reached (defScope (top 106)) 3) (putN 4) (whB (stAt (defBody (top 106)) 2)) [.v (.l (st.map pairL)), .v (.s x), .ok (keysD k), .v (.l (l.map .s)), .no, .no, .no, .no, .no] (ds.map fun k : Nat => .i (k : Int)) (.nx e') ∧ Wk e' [.v (.l (st.map pairL)), .v (.s x), .ok (keysD (bfs st ds.length k l)), .no, .no, .no, .no, .no, .no] := by
    intro ds
    induction ds with
    | nil => exact fun t k l _ _ => ⟨_, .nil, by repeat (first | exact Wk.nil | refine Wk.same ?_ | refine Wk.drop ?_ | refine Wk.shl ?_ | refine Wk.shk ?_)⟩
    | cons d ds ih =>
      intro t k l hat hl
      have hbd := hb t k l hat
      have turn : ∀ {out : Out}, XSs (W.ga N__law_reached (defScope (top 106)) 3) ((whB (stAt (defBody (top 106)) 2)).drop 2) [.v (.l (st.map pairL)), .v (.s x), .ok (keysD (turnF st k l).1), .v (.l (l.map .s)), .v (.i (d : Int)), .ol ((turnF st k l).2.map .s), .no, .no, .no] out → XSs (W.ga N__law_reached (defScope (top 106)) 3) (whB (stAt (defBody (top 106)) 2)) [.v (.l (st.map pairL)), .v (.s x), .ok (keysD k), .v (.l (l.map .s)), .v (.i (d : Int)), .no, .no, .no, .no] out := fun {out} hh => by
        refine xss_form ?_
        refine xss_cons (xs_setN 5 (xn_lst xa_nil) pt_ (by simp)) ?_
        refine xss_foldN (S := List Tx × List Tx) (s := (k, [])) (l := l) (f := D.s) (step := fun s y => rowT st y s) (E := fun s => [.v (.l (st.map pairL)), .v (.s x), .ok (keysD s.1), .v (.l (l.map .s)), .v (.i (d : Int)), .ol (s.2.map .s), .no, .no, .no]) (fun i s => s.1.length ≤ k.length + i * st.length ∧ s.2.length ≤ i * st.length) (by simp) (xi_any (xv 3) (by constructor)) (xg1 6 pt_) (fun i s y hyi hs => ?_) (fun _ => hh)
        have hil : i < l.length := (List.getElem?_eq_some_iff.mp hyi).1
        have hxl : y.length = n := hl y (List.mem_of_getElem? hyi)
        have hmul : i * st.length + st.length ≤ l.length * st.length := by
          have := Nat.mul_le_mul_right st.length (show i + 1 ≤ l.length from hil)
          rwa [Nat.succ_mul] at this
        have hrl := rowT_len st y s
        refine ⟨⟨by rw [Nat.succ_mul]; omega, by rw [Nat.succ_mul]; omega⟩, [.v (.l (st.map pairL)), .v (.s x), .ok (keysD s.1), .v (.l (l.map .s)), .v (.i (d : Int)), .ol (s.2.map .s), .v (.s y), .no, .no], [.v (.l (st.map pairL)), .v (.s x), .ok (keysD (rowT st y s).1), .v (.l (l.map .s)), .v (.i (d : Int)), .ol ((rowT st y s).2.map .s), .v (.s y), .no, .no], putn 6, ?_, by repeat (first | exact Wk.nil | refine Wk.same ?_ | refine Wk.drop ?_ | refine Wk.shl ?_ | refine Wk.shk ?_)⟩
        refine xss_form ?_
        refine xss_foldN (S := List Tx × List Tx) (s := s) (l := st) (f := pairL) (step := fun s q => addF s (pressF y q.2)) (E := fun s => [.v (.l (st.map pairL)), .v (.s x), .ok (keysD s.1), .v (.l (l.map .s)), .v (.i (d : Int)), .ol (s.2.map .s), .v (.s y), .no, .no]) (fun j s' => s'.1.length ≤ s.1.length + j ∧ s'.2.length ≤ s.2.length + j) (by simp) (xi_any (xv 0) (by constructor)) (xg1 7 pt_) (fun j s' q hqi hs' => ?_) (fun _ => xss_nil)
        have hjl : j < st.length := (List.getElem?_eq_some_iff.mp hqi).1
        have hq : q ∈ st := List.mem_of_getElem? hqi
        have hal := addF_len s' (pressF y q.2)
        refine ⟨⟨by omega, by omega⟩, [.v (.l (st.map pairL)), .v (.s x), .ok (keysD s'.1), .v (.l (l.map .s)), .v (.i (d : Int)), .ol (s'.2.map .s), .v (.s y), .v (pairL q), .no], [.v (.l (st.map pairL)), .v (.s x), .ok (keysD (addF s' (pressF y q.2)).1), .v (.l (l.map .s)), .v (.i (d : Int)), .ol ((addF s' (pressF y q.2)).2.map .s), .v (.s y), .v (pairL q), .v (.s (pressF y q.2))], putn 7, ?_, by repeat (first | exact Wk.nil | refine Wk.same ?_ | refine Wk.drop ?_ | refine Wk.shl ?_ | refine Wk.shk ?_)⟩
        refine xss_form ?_
        refine xss_setX 8 pt_ ⟨_, (xe_call F.kn__law_press (by dsimp only [Wd.ga, Ga.blk]; decide) (xa_cons (xv 6) (xa_cons (xe_ix (xv 7) xe_int (by first | exact itWT 1 rfl rfl | exact itW 1 rfl rfl | exact itS 1 rfl (by first | omega | (simp; done) | (simp; omega) | assumption) (by first | omega | (simp; done) | (simp; omega) | assumption) | exact itN 1 rfl (by first | omega | (simp; done) | (simp; omega) | assumption) | exact itI 1 rfl (by first | omega | (simp; done) | (simp; omega) | assumption) | exact itL 1 rfl default (by first | omega | (simp; done) | (simp; omega) | assumption) | exact itT 1 rfl default (by first | omega | (simp; done) | (simp; omega) | assumption))) xa_nil)) (sp__law_press F (by rw [hxl]; omega) (by rw [hxl]; exact hL q hq))), ?_⟩
        refine xss_ifX ⟨!decide (pressF y q.2 ∈ s'.1), XT.eq (xt_view 2 rfl rfl (xt_notInK (xv 8) (xv 2))) (by rw [getD_keys]), fun h => ?_, fun h => ?_⟩
        · have hnot : pressF y q.2 ∉ s'.1 := by simpa using h
          have ha : addF s' (pressF y q.2) = (s'.1 ++ [pressF y q.2], s'.2 ++ [pressF y q.2]) := if_neg hnot
          have hz1 : (keysD s'.1).length < 16777216 := by simp [keysD]; omega
          have hz2 : (s'.2.map D.s).length < 16777216 := by simp; omega
          rw [ha]
          refine .nx ?_ xss_nil
          refine xss_form ?_
          refine xss_cons (xs_putK 2 xe_int (xv 8) rfl rfl (by first | exact Or.inl rfl | exact Or.inr (Or.inl rfl)) hz1 (by decide +kernel) (by decide +kernel)) ?_
          refine xss_cons (xs_append 5 (xv 8) rfl rfl (by first | exact Or.inl rfl | exact Or.inr (Or.inl rfl)) hz2 (by decide +kernel) (by decide +kernel)) ?_
          rw [put_keys hnot]
          simp only [List.set_cons_zero, List.set_cons_succ, List.map_append, List.map_cons, List.map_nil]
          exact xss_nil
        have hin : pressF y q.2 ∈ s'.1 := by simpa using h
        have ha : addF s' (pressF y q.2) = s' := if_pos hin
        rw [ha]
        exact .skip xss_nil
      have eb : bfs st (ds.length + 1) k l = if (turnF st k l).2 = [] then (turnF st k l).1 else bfs st ds.length (turnF st k l).1 (turnF st k l).2 := rfl
      rw [List.length_cons, eb]
      by_cases hg : (turnF st k l).2 = []
      · rw [if_pos hg]
        refine ⟨_, .bk (putn 4) (turn ?_) (e2 := [.v (.l (st.map pairL)), .v (.s x), .ok (keysD (turnF st k l).1), .v (.l []), .v (.i (d : Int)), .v (.l []), .no, .no, .no]), by repeat (first | exact Wk.nil | refine Wk.same ?_ | refine Wk.drop ?_ | refine Wk.shl ?_ | refine Wk.shk ?_)⟩
        rw [hg]
        refine XSs.weakL (env' := [.v (.l (st.map pairL)), .v (.s x), .ok (keysD (turnF st k l).1), .v (.l (l.map .s)), .v (.i (d : Int)), .v (.l []), .no, .no, .no]) ?_ (by repeat (first | exact Wk.nil | refine Wk.same ?_ | refine Wk.drop ?_ | refine Wk.shl ?_ | refine Wk.shk ?_))
        refine xss_form ?_
        refine xss_setX 3 pt_ ⟨_, (xe_listL F.n_list (xv 5)), ?_⟩
        refine xss_ifX ⟨_, (xt_eq (xe_len F.n_len (xv 3) (by first | exact LenD.l _ | exact LenD.t _ | exact LenD.q _ | exact LenD.s _ (by first | omega | (simp; done) | (simp; omega) | assumption))) xe_int (by constructor)), fun h => ?_, fun h => ?_⟩
        · exact .lv (xss_one xs_break) (.bk _)
        · cases h
      · rw [if_neg hg]
        obtain ⟨e', z1, z2⟩ := ih (t + 1) _ _ (.succ hat hg) (fun y hy => by
          obtain ⟨_, x', hx', q, hq, rfl⟩ := turnF_2.mp hy
          rw [pressF_len]; exact hl x' hx')
        refine ⟨e', .nx (putn 4) (turn ?_) (e2 := [.v (.l (st.map pairL)), .v (.s x), .ok (keysD (turnF st k l).1), .v (.l ((turnF st k l).2.map .s)), .v (.i (d : Int)), .v (.l ((turnF st k l).2.map .s)), .no, .no, .no]) (by repeat (first | exact Wk.nil | refine Wk.same ?_ | refine Wk.drop ?_ | refine Wk.shl ?_ | refine Wk.shk ?_)) z1, z2⟩
        refine XSs.weakL (env' := [.v (.l (st.map pairL)), .v (.s x), .ok (keysD (turnF st k l).1), .v (.l (l.map .s)), .v (.i (d : Int)), .v (.l ((turnF st k l).2.map .s)), .no, .no, .no]) ?_ (by repeat (first | exact Wk.nil | refine Wk.same ?_ | refine Wk.drop ?_ | refine Wk.shl ?_ | refine Wk.shk ?_))
        refine xss_form ?_
        refine xss_setX 3 pt_ ⟨_, (xe_listL F.n_list (xv 5)), ?_⟩
        refine xss_ifX ⟨_, (xt_eq (xe_len F.n_len (xv 3) (by first | exact LenD.l _ | exact LenD.t _ | exact LenD.q _ | exact LenD.s _ (by first | omega | (simp; done) | (simp; omega) | assumption))) xe_int (by constructor)), fun h => ?_, fun h => ?_⟩
        · exfalso
          apply hg
          have : ((turnF st k l).2.map D.s).length = 0 := by
            have h2 := of_decide_eq_true h
            omega
          simpa using this
        exact .skip xss_nil
  obtain ⟨e', z1, z2⟩ := key (List.range 1000000) 0 [x] [x] .zero (fun y hy => by rw [List.mem_singleton.mp hy]; exact hx)
  rw [List.length_range] at z2
  refine xss_for (xi_range (n := 1000000) F.n_range xe_int (by omega)) (xg1 4 pt_) (.inl ⟨_, z1, ?_⟩)
  refine XSs.weakL ?_ z2
  refine XSs.weakL (env' := [.v (.l (st.map pairL)), .v (.s x), .v (.k (keysD (bfs st 1000000 [x] [x]))), .no, .no, .no, .no, .no, .no]) ?_ (by repeat (first | exact Wk.nil | refine Wk.same ?_ | refine Wk.drop ?_ | refine Wk.shl ?_ | refine Wk.shk ?_))
  refine xss_one (xs_ret ?_)
  exact (xv 2)
/-! ### words of two reached sets -/
def lessF (a b : List Tx) : Bool := a.any fun y => !decide (y ∈ b)
theorem less_pos (a b : List Tx) : decide ((0 : Int) < ((a.filter fun y => !decide (y ∈ b)).length : Int)) = lessF a b := by
  rw [cast_gt, Bool.eq_iff_iff, decide_eq_true_eq, List.length_pos_iff, lessF, List.any_eq_true]
  constructor
  · intro h
    obtain ⟨y, hy⟩ := List.exists_mem_of_ne_nil _ h
    exact ⟨y, (List.mem_filter.mp hy).1, (List.mem_filter.mp hy).2⟩
  · rintro ⟨y, h1, h2⟩ z
    have : y ∈ a.filter fun y => !decide (y ∈ b) := List.mem_filter.mpr ⟨h1, h2⟩
    rw [z] at this; cases this
theorem keys_map (a : List Tx) : (keysD a).map (fun kv => D.s kv.1) = a.map .s := by simp [keysD]
theorem keys_comp {Γb : Ga} {env : List Sl} {elt c : Expr} {a b : List Tx} {put : List Sl → D → List Sl → Prop} (h : ∀ y ∈ a, ∃ e1, put env (.s y) e1 ∧ XT Γb c e1 (!(getD (keysD b) y).isSome) ∧ XE Γb elt e1 (.s y)) : Comp Γb put [c] elt env ((keysD a).map fun kv => .s kv.1) ((a.filter fun y => !decide (y ∈ b)).map .s) := by
  rw [keys_map]
  refine comp_filter (f := D.s) (g := D.s) fun y hy => ?_
  obtain ⟨e1, h1, h2, h3⟩ := h y hy
  exact ⟨e1, h1, by rw [getD_keys] at h2; exact h2, fun _ => ⟨_, h3, rfl⟩⟩
theorem sp__law_word (F : Wo W) {a b : List Tx} (ha : a.length < 16777216) (hb : b.length < 16777216) : RB W N__law_word (defScope (top 107)) 2 (defBody (top 107)) 2 [.k (keysD a), .k (keysD b)] (.s (wordF (lessF a b) (lessF b a))) := by
  refine ⟨rfl, _, .rt _, ?_⟩
  show XSs (W.ga N__law_word (defScope (top 107)) 2) (defBody (top 107)) [.v (.k (keysD a)), .v (.k (keysD b)), .no, .no, .no] _; refine xss_form ?_
  have ha' : (keysD a).length < 16777216 := by simpa [keysD] using ha
  have hb' : (keysD b).length < 16777216 := by simpa [keysD] using hb
  refine xss_cons (xs_setLcK 2 0 (rs := a.filter fun y => !decide (y ∈ b)) (own := [("_law_sheet_here", 4)]) lc_ rfl rfl rfl rfl (by first | exact Or.inl rfl | exact Or.inr (Or.inl rfl)) (by decide +kernel) (by decide +kernel) (fun _ => rfl) (xg1 4 pt_) ha' (keys_comp fun y hy => ⟨_, putn 4, xt_notInK (xv 4) (xv 1), xv 4⟩)) ?_
  refine xss_cons (xs_setLcK 3 1 (rs := b.filter fun y => !decide (y ∈ a)) (own := [("_law_sheet_here", 4)]) lc_ rfl rfl rfl rfl (by first | exact Or.inl rfl | exact Or.inr (Or.inl rfl)) (by decide +kernel) (by decide +kernel) (fun _ => rfl) (xg1 4 pt_) hb' (keys_comp fun y hy => ⟨_, putn 4, xt_notInK (xv 4) (xv 0), xv 4⟩)) ?_
  refine xss_one (xs_ret ?_)
  exact (xe_ix (xe_ix (xe_lst (xa_cons (xe_lst (xa_cons (xe_str (l := [97, 108, 105, 107, 101]) (by decide +kernel)) (xa_cons (xe_str (l := [105, 110, 115, 105, 100, 101]) (by decide +kernel)) xa_nil)) (by first | omega | (simp; done) | (simp; omega) | assumption)) (xa_cons (xe_lst (xa_cons (xe_str (l := [97, 114, 111, 117, 110, 100]) (by decide +kernel)) (xa_cons (xe_str (l := [97, 112, 97, 114, 116]) (by decide +kernel)) xa_nil)) (by first | omega | (simp; done) | (simp; omega) | assumption)) xa_nil)) (by first | omega | (simp; done) | (simp; omega) | assumption)) (XE.eq (xe_int1 F.n_int (xe_gt (xe_len F.n_len (xv 2) (by first | exact LenD.l _ | exact LenD.t _ | exact LenD.q _ | exact LenD.s _ (by first | omega | (simp; done) | (simp; omega) | assumption))) xe_int) (by constructor)) (d' := .i (if lessF a b then 1 else 0)) (by rw [List.length_map, less_pos])) (comp4 _ true)) (XE.eq (xe_int1 F.n_int (xe_gt (xe_len F.n_len (xv 3) (by first | exact LenD.l _ | exact LenD.t _ | exact LenD.q _ | exact LenD.s _ (by first | omega | (simp; done) | (simp; omega) | assumption))) xe_int) (by constructor)) (d' := .i (if lessF b a then 1 else 0)) (by rw [List.length_map, less_pos])) (comp4b _ _))
end
end Q8
namespace Q8
open PySem L2 PyProof.Rows
theorem fold_lost (st : Sm) (rows : List (Option (List Tx))) : ∀ (l : List Nat) (s : List Tx), l.foldl (fun s k => if (rows.getD k none).isNone then s ++ [(st.getD k default).1] else s) s = s ++ (l.filter fun k => (rows.getD k none).isNone).map fun k => (st.getD k default).1
  | [], s => by simp
  | k :: l, s => by
    rw [List.foldl_cons, fold_lost st rows l]
    cases h : (rows.getD k none).isNone with
    | true => simp only [List.filter_cons, h, if_true, List.map_cons]; simp
    | false => simp only [List.filter_cons, h, Bool.false_eq_true, if_false]
def reachL (st : Sm) (x : Tx) : List Tx := bfs st 1000000 [x] [x]
def BfsOk (st : Sm) (x : Tx) : Prop := ∀ t k l, BfsAt st x t k l → k.length + l.length * st.length < 16000000
def c1F (a b : Sm) : List Nat := match missA a b with
  | none => []
  | some x => (madeF b (lookL a x)).2
section
variable {W : Wd}
theorem sp__law_side_right (F : Wo W) {n : Nat} {st : Sm} {rows : List (Option (List Tx))} {ks : List Tx} {Y : Tx} (hn : n ≤ 1000) (hfew : st.length ≤ 1000) (hl : rows.length = st.length) (hst : ∀ q ∈ st, q.2.length = n) (hW : Y.length = n) (hr : ∀ k, k < st.length → (rows.getD k none).isSome = decide (pressF Y (st.getD k default).2 ∈ ks)) :
    RB W N__law_side_right (defScope (top 108)) 3 (defBody (top 108)) 5 [.t (rows.map rowD), nameD (missF st rows), .l (st.map pairL), .s Y, .k (keysD ks)] (.b true) := by
  refine ⟨rfl, _, .rt _, ?_⟩
  show XSs (W.ga N__law_side_right (defScope (top 108)) 3) (defBody (top 108)) [.v (.t (rows.map rowD)), .v (nameD (missF st rows)), .v (.l (st.map pairL)), .v (.s Y), .v (.k (keysD ks)), .no, .no, .no] _; refine xss_form ?_
  refine xss_cons (xs_setN 5 (xn_lst xa_nil) pt_ (by simp)) ?_
  refine xss_foldN (S := List Tx) (s := []) (l := List.range (st.map pairL).length) (f := fun k : Nat => .i (k : Int)) (step := fun s k => if (rows.getD k none).isNone then s ++ [(st.getD k default).1] else s) (E := fun s => [.v (.t (rows.map rowD)), .v (nameD (missF st rows)), .v (.l (st.map pairL)), .v (.s Y), .v (.k (keysD ks)), .ol (s.map .s), .no, .no]) (fun i s => s.length ≤ i) (Nat.le_refl 0) (xi_range F.n_range (xe_len F.n_len (xv 2) (by first | exact LenD.l _ | exact LenD.t _ | exact LenD.q _ | exact LenD.s _ (by first | omega | (simp; done) | (simp; omega) | assumption))) (by first | omega | (simp; done) | (simp; omega) | assumption)) (xg1 6 pt_) (fun i s k hki hs => ?_) fun _ => ?_
  · have hk : k < st.length := by simpa using List.mem_range.mp (List.mem_of_getElem? hki)
    have hil : i < st.length := by simpa using (List.getElem?_eq_some_iff.mp hki).1
    have hk' : k < rows.length := by rw [hl]; exact hk
    have hrk := hr k hk
    refine ⟨by split <;> first | omega | (simp only [List.length_append, List.length_singleton]; omega), [.v (.t (rows.map rowD)), .v (nameD (missF st rows)), .v (.l (st.map pairL)), .v (.s Y), .v (.k (keysD ks)), .ol (s.map .s), .v (.i (k : Int)), .no], [.v (.t (rows.map rowD)), .v (nameD (missF st rows)), .v (.l (st.map pairL)), .v (.s Y), .v (.k (keysD ks)), .ol ((if (rows.getD k none).isNone then s ++ [(st.getD k default).1] else s).map .s), .v (.i (k : Int)), .v (.b (rows.getD k none).isSome)], putn 6, ?_, by repeat (first | exact Wk.nil | refine Wk.same ?_ | refine Wk.drop ?_ | refine Wk.shl ?_ | refine Wk.shk ?_)⟩
    refine xss_form ?_
    refine xss_setX 7 pt_ ⟨_, (xe_inK (xe_call F.kn__law_press (by dsimp only [Wd.ga, Ga.blk]; decide) (xa_cons (xv 3) (xa_cons (xe_ix (xe_ix (xv 2) (xv 6) (itL (f := pairL) k rfl default hk)) xe_int (itW 1 rfl rfl)) xa_nil)) (sp__law_press F (by omega) (by rw [hst (st.getD k default) (getD_mem' hk)]; exact hW.symm))) (xv 4)), ?_⟩
    rw [getD_keys, ← hrk]
    refine xss_ifX ⟨_, (xt_ne (xe_notN (xe_ix (xv 0) (xv 6) (itT (f := rowD) k rfl none hk'))) (xv 7) (ScEq.b _ _)), fun h => ?_, fun h => ?_⟩
    · exfalso
      revert h
      cases rows.getD k none <;> simp [rowD, isN]
    refine .skip ?_
    refine xss_ifX ⟨_, (xt_not (xt_val (xv 7))), fun h => ?_, fun h => ?_⟩
    · have hnn : (rows.getD k none).isNone = true := by revert h; cases rows.getD k none <;> simp
      rw [if_pos hnn]
      refine .nx ?_ xss_nil
      refine xss_form ?_
      have hz2 : (s.map D.s).length < 16777216 := by simp; omega
      refine xss_cons (xs_append 5 (xe_ix (xe_ix (xv 2) (xv 6) (itL (f := pairL) k rfl default hk)) xe_int (itW 0 rfl rfl)) rfl rfl (by first | exact Or.inl rfl | exact Or.inr (Or.inl rfl)) hz2 (by decide +kernel) (by decide +kernel)) ?_
      simp only [List.set_cons_zero, List.set_cons_succ, List.map_append, List.map_cons, List.map_nil]
      exact xss_nil
    have hnn : (rows.getD k none).isNone = false := by revert h; cases rows.getD k none <;> simp
    rw [if_neg (by rw [hnn]; simp)]
    exact .skip xss_nil
  rw [fold_lost, List.nil_append, List.length_map]
  have el : ((List.range st.length).filter fun k => (rows.getD k none).isNone).map (fun k => (st.getD k default).1) = lostF st rows := rfl
  rw [el]
  have hz : (lostF st rows).length ≤ 1000 := by
    unfold lostF
    rw [List.length_map]
    exact Nat.le_trans (List.length_filter_le _ _) (by simp; omega)
  refine XSs.weakL (env' := [.v (.t (rows.map rowD)), .v (nameD (missF st rows)), .v (.l (st.map pairL)), .v (.s Y), .v (.k (keysD ks)), .v (.l ((lostF st rows).map .s)), .no, .no]) ?_ (by repeat (first | exact Wk.nil | refine Wk.same ?_ | refine Wk.drop ?_ | refine Wk.shl ?_ | refine Wk.shk ?_))
  have e7 := (lost_miss st rows hl).1
  rw [← e7]
  cases hh : (lostF st rows).head? with
  | none =>
    refine xss_retX ⟨_, xe_eq (xv 1) (XE.eq (xe_ix (xe_plus (xv 5) (xe_lst (xa_cons xe_non xa_nil) (by simp)) (AddD.l _ _ (by simp; omega))) xe_int (itW 0 rfl (head_none _))) (by rw [hh]; rfl)) ScEq.nn, rfl⟩
  | some x =>
    refine xss_retX ⟨_, xe_eq (xv 1) (XE.eq (xe_ix (xe_plus (xv 5) (xe_lst (xa_cons xe_non xa_nil) (by simp)) (AddD.l _ _ (by simp; omega))) xe_int (itW 0 rfl (head_none _))) (by rw [hh]; rfl)) (ScEq.s x x), by simp⟩
/-! ### forwards -/
/-- what is to be known of the reached sheets -/
structure FwdOk (n : Nat) (a b : Sm) (Y S : Tx) : Prop where
  b1 : BfsOk a Y
  b2 : BfsOk b Y
  b3 : BfsOk a S
  b4 : BfsOk b S
  z1 : (reachL a Y).length < 16777216
  z2 : (reachL b Y).length < 16777216
  z3 : (reachL a S).length < 16777216
  z4 : (reachL b S).length < 16777216
  w : wordC a b = wordF (lessF (reachL a Y) (reachL b Y)) (lessF (reachL b Y) (reachL a Y))
  r1 : ∀ k, k < a.length → ((rowsF b a).getD k none).isSome = decide (pressF Y (a.getD k default).2 ∈ reachL b Y)
  r2 : ∀ k, k < b.length → ((rowsF a b).getD k none).isSome = decide (pressF Y (b.getD k default).2 ∈ reachL a Y)
  s : wordC a b = [97, 112, 97, 114, 116] ∨ wordF (lessF (reachL a S) (reachL b S)) (lessF (reachL b S) (reachL a S)) = aliveT ∨ wordF (lessF (reachL a S) (reachL b S)) (lessF (reachL b S) (reachL a S)) = wordC a b
theorem sp__law_forwards (F : Wo W) {n : Nat} {a b : Sm} {S : Tx} (ha : OkS n a) (hb : OkS n b) (hS : S.length = n) (hf : ∀ k, k < n → Free (layT a ++ layT b) k) (hh : FwdOk n a b (strangeF n (layT a ++ layT b)) S) : RB W N__law_forwards (defScope (top 109)) 4 (defBody (top 109)) 5 [compD n a b, .i (n : Int), .l (a.map pairL), .l (b.map pairL), .s S] (.b true) := by
  refine ⟨rfl, _, .rt _, ?_⟩
  show XSs (W.ga N__law_forwards (defScope (top 109)) 4) (defBody (top 109)) [.v (compD n a b), .v (.i (n : Int)), .v (.l (a.map pairL)), .v (.l (b.map pairL)), .v (.s S), .no, .no, .no, .no, .no] _; refine xss_form ?_
  have fa := ha.few
  have fb := hb.few
  have hn' := ha.hi
  have hn : n ≤ 1000 := by omega
  obtain ⟨b1, b2, b3, b4, z1, z2, z3, z4, hw, r1, r2, hs⟩ := hh
  have hLL : ∀ x ∈ (a ++ b).map (·.2), x.length = n := fun x hx => by
    obtain ⟨q, hq, rfl⟩ := List.mem_map.mp hx
    rcases List.mem_append.mp hq with z | z
    · exact layL ha q z
    · exact layL hb q z
  have eab2 : (a ++ b).map (·.2) = layT a ++ layT b := by simp [layT]
  have hf' : ∀ k, k < n → Free ((a ++ b).map (·.2)) k := by rw [eab2]; exact hf
  have hW : (strangeF n (layT a ++ layT b)).length = n := tab_len _ _
  refine xss_setX 5 pt_ ⟨_, (xe_call F.kn__law_strange (by dsimp only [Wd.ga, Ga.blk]; decide) (xa_cons (xv 1) (xa_cons (xe_lc (own := [("_law_pair", 9)]) lc_ (xi_any (XE.eq (xe_plus (xv 2) (xv 3) (AddD.l _ _ (by simp; omega))) (d' := .l ((a ++ b).map pairL)) (by rw [List.map_append])) (by constructor)) (xg1 9 pt_) (by first | (simp [rangeD]; omega) | (simp; omega) | (simp; done)) (comp_mapS (g := fun q : Tx × Tx => q.2) (fun q hm => ⟨_, _, putn 9, (xe_ix (xv 9) xe_int (by first | exact itWT 1 rfl rfl | exact itW 1 rfl rfl | exact itS 1 rfl (by first | omega | (simp; done) | (simp; omega) | assumption) (by first | omega | (simp; done) | (simp; omega) | assumption) | exact itN 1 rfl (by first | omega | (simp; done) | (simp; omega) | assumption) | exact itI 1 rfl (by first | omega | (simp; done) | (simp; omega) | assumption) | exact itL 1 rfl default (by first | omega | (simp; done) | (simp; omega) | assumption) | exact itT 1 rfl default (by first | omega | (simp; done) | (simp; omega) | assumption))), by rfl⟩))) xa_nil)) ((sp__law_strange F hn' hLL (by simp; omega) hf'))), ?_⟩
  rw [eab2]
  refine xss_setX 6 pt_ ⟨_, (xe_call F.kn__law_reached (by dsimp only [Wd.ga, Ga.blk]; decide) (xa_cons (xv 2) (xa_cons (xv 5) xa_nil)) (sp__law_reached F hn (layL ha) hW b1)), ?_⟩
  refine xss_setX 7 pt_ ⟨_, (xe_call F.kn__law_reached (by dsimp only [Wd.ga, Ga.blk]; decide) (xa_cons (xv 3) (xa_cons (xv 5) xa_nil)) (sp__law_reached F hn (layL hb) hW b2)), ?_⟩
  refine xss_ifX ⟨_, (xt_ne (xe_fld F.cf3 0 (xv 0) rfl rfl) (xe_call F.kn__law_word (by dsimp only [Wd.ga, Ga.blk]; decide) (xa_cons (xv 6) (xa_cons (xv 7) xa_nil)) (sp__law_word F z1 z2)) (by constructor)), fun h => ?_, fun h => ?_⟩
  · exfalso
    have : decide (wordC a b = wordF (lessF (reachL a (strangeF n (layT a ++ layT b))) (reachL b (strangeF n (layT a ++ layT b)))) (lessF (reachL b (strangeF n (layT a ++ layT b))) (reachL a (strangeF n (layT a ++ layT b))))) = true := decide_eq_true hw
    have h : (!decide (wordC a b = wordF (lessF (reachL a (strangeF n (layT a ++ layT b))) (reachL b (strangeF n (layT a ++ layT b)))) (lessF (reachL b (strangeF n (layT a ++ layT b))) (reachL a (strangeF n (layT a ++ layT b)))))) = true := h
    rw [this] at h; cases h
  refine .skip ?_
  refine xss_ifX ⟨_, (xt_not (xt_val (xe_call F.kn__law_side_right (by dsimp only [Wd.ga, Ga.blk]; decide) (xa_cons (xe_fld F.cf3 1 (xv 0) rfl rfl) (xa_cons (xe_fld F.cf3 3 (xv 0) rfl rfl) (xa_cons (xv 2) (xa_cons (xv 5) (xa_cons (xv 7) xa_nil))))) (sp__law_side_right F hn (by omega) (by simp [rowsF, layT]) (layL ha) hW r1)))), fun h => ?_, fun h => ?_⟩
  · cases h
  refine .skip ?_
  refine xss_ifX ⟨_, (xt_not (xt_val (xe_call F.kn__law_side_right (by dsimp only [Wd.ga, Ga.blk]; decide) (xa_cons (xe_fld F.cf3 2 (xv 0) rfl rfl) (xa_cons (xe_fld F.cf3 4 (xv 0) rfl rfl) (xa_cons (xv 3) (xa_cons (xv 5) (xa_cons (xv 6) xa_nil))))) (sp__law_side_right F hn (by omega) (by simp [rowsF, layT]) (layL hb) hW r2)))), fun h => ?_, fun h => ?_⟩
  · cases h
  refine .skip ?_
  refine xss_setX 8 pt_ ⟨_, (xe_call F.kn__law_word (by dsimp only [Wd.ga, Ga.blk]; decide) (xa_cons (xe_call F.kn__law_reached (by dsimp only [Wd.ga, Ga.blk]; decide) (xa_cons (xv 2) (xa_cons (xv 4) xa_nil)) (sp__law_reached F hn (layL ha) hS b3)) (xa_cons (xe_call F.kn__law_reached (by dsimp only [Wd.ga, Ga.blk]; decide) (xa_cons (xv 3) (xa_cons (xv 4) xa_nil)) (sp__law_reached F hn (layL hb) hS b4)) xa_nil)) (sp__law_word F z3 z4)), ?_⟩
  refine xss_retX ⟨_, (xe_or (xe_eq (xe_fld F.cf3 0 (xv 0) rfl rfl) (xe_str (l := [97, 112, 97, 114, 116]) (by decide +kernel)) (by constructor)) (fun hh2 => (xe_or (xe_eq (xv 8) (xe_str (l := [97, 108, 105, 107, 101]) (by decide +kernel)) (by constructor)) (fun hh1 => (xe_bool1 (xe_eq (xv 8) (xe_fld F.cf3 0 (xv 0) rfl rfl) (by constructor))))))), ?_⟩
  rcases hs with h | h | h
  · rw [h]; rfl
  · have : decide (wordF (lessF (bfs a 1000000 [S] [S]) (bfs b 1000000 [S] [S])) (lessF (bfs b 1000000 [S] [S]) (bfs a 1000000 [S] [S])) = [97, 108, 105, 107, 101]) = true := decide_eq_true h
    rw [this]; simp
  · have : decide (wordF (lessF (bfs a 1000000 [S] [S]) (bfs b 1000000 [S] [S])) (lessF (bfs b 1000000 [S] [S]) (bfs a 1000000 [S] [S])) = wordC a b) = true := decide_eq_true h
    rw [this]; simp
/-! ### judged -/
theorem others_ok (w : Tx) (hw : w ∈ wordsT) (k : Nat) (hk : k < 3) : ∃ o, (wordsT.filter fun v => decide (v ≠ w))[k]? = some o ∧ o ∈ wordsT ∧ o ≠ w := by
  have hl : (wordsT.filter fun v => decide (v ≠ w)).length = 3 := by
    simp only [wordsT, List.mem_cons, List.not_mem_nil, or_false] at hw
    rcases hw with rfl | rfl | rfl | rfl <;> rfl
  refine ⟨_, List.getElem?_eq_getElem (by rw [hl]; exact hk), ?_⟩
  have := List.getElem_mem (l := wordsT.filter fun v => decide (v ≠ w)) (by rw [hl]; exact hk)
  obtain ⟨h1, h2⟩ := List.mem_filter.mp this
  exact ⟨h1, by simpa using h2⟩
theorem word_mem (a b : Bool) : wordF a b ∈ wordsT := by cases a <;> cases b <;> decide
theorem sp__law_judged (F : Wo W) {n num : Nat} {a b : Sm} (ha : OkS n a) (hb : OkS n b) (hnum : num < 3) (s1 : SideOk n b a (rowsF b a) (missA a b) (c1F a b)) (s2 : SideOk n a b (rowsF a b) (missA b a) (c1F b a))
    (hst : wordC a b ≠ aliveT → ∃ y, sheetC n a b = some y ∧ y.length = n ∧ ∀ x ∈ layT a ++ layT b, ∀ k, k < n → at_ x k ≠ at_ y k) : RB W N__law_judged (defScope (top 110)) 10 (defBody (top 110)) 4 [stockD n a, stockD n b, compD n a b, .i (num : Int)] (.b true) := by
  refine ⟨rfl, _, .rt _, ?_⟩
  show XSs (W.ga N__law_judged (defScope (top 110)) 10) (defBody (top 110)) [.v (stockD n a), .v (stockD n b), .v (compD n a b), .v (.i (num : Int)), .no, .no, .no, .no] _; refine xss_form ?_
  have hnn := ha.hi
  refine xss_cons (xs_setN 4 (xn_lst (xa_cons (xe_tup xa_nil (by simp)) (xa_cons (xe_tup xa_nil (by simp)) xa_nil))) pt_ (by simp)) ?_
  have rest : XSs (W.ga N__law_judged (defScope (top 110)) 10) ((defBody (top 110)).drop 2) [.v (stockD n a), .v (stockD n b), .v (compD n a b), .v (.i (num : Int)), .ol [.t (natsD (c1F a b)), .t []], .no, .no, .no] (.rt (.b true)) := by
    have rest2 : XSs (W.ga N__law_judged (defScope (top 110)) 10) ((defBody (top 110)).drop 3) [.v (stockD n a), .v (stockD n b), .v (compD n a b), .v (.i (num : Int)), .ol [.t (natsD (c1F a b)), .t (natsD (c1F b a))], .no, .no, .no] (.rt (.b true)) := by
      have hwl : wordsT.length = 4 := rfl
      obtain ⟨o, ho1, ho2, ho3⟩ := others_ok (wordC a b) (word_mem _ _) num hnum
      have hix : ((wordsT.filter fun v => decide (v ≠ wordC a b)).map D.s)[num]? = some (.s o) := by rw [List.getElem?_map, ho1]; rfl
      refine XSs.weakL (env' := [.v (stockD n a), .v (stockD n b), .v (compD n a b), .v (.i (num : Int)), .v (.l [.t (natsD (c1F a b)), .t (natsD (c1F b a))]), .no, .no, .no]) ?_ (by repeat (first | exact Wk.nil | refine Wk.same ?_ | refine Wk.drop ?_ | refine Wk.shl ?_ | refine Wk.shk ?_))
      refine xss_form ?_
      refine xss_setX 5 pt_ ⟨_, (xe_plus (xe_lst (xa_cons (xe_fld F.cf3 1 (xv 2) rfl rfl) (xa_cons (xe_fld F.cf3 2 (xv 2) rfl rfl) (xa_cons (xe_fld F.cf3 3 (xv 2) rfl rfl) (xa_cons (xe_fld F.cf3 4 (xv 2) rfl rfl) (xa_cons (xe_fld F.cf3 5 (xv 2) rfl rfl) xa_nil))))) (by first | omega | (simp; done) | (simp; omega) | assumption)) (xv 4) (by first | exact AddD.i _ _ | exact AddD.s _ _ (by first | omega | (simp; done) | (simp; omega) | assumption) | exact AddD.l _ _ (by first | omega | (simp; done) | (simp; omega) | assumption) | exact AddD.t _ _ (by first | omega | (simp; done) | (simp; omega) | assumption))), ?_⟩
      refine xss_setX 6 pt_ ⟨_, (xe_ix (xe_lc (own := [("_law_word_here", 7)]) lc_ (xi_any (XE.eq (xe_lst (xa_cons (xe_str (l := [97, 108, 105, 107, 101]) (by decide +kernel)) (xa_cons (xe_str (l := [105, 110, 115, 105, 100, 101]) (by decide +kernel)) (xa_cons (xe_str (l := [97, 114, 111, 117, 110, 100]) (by decide +kernel)) (xa_cons (xe_str (l := [97, 112, 97, 114, 116]) (by decide +kernel)) xa_nil)))) (by first | omega | (simp; done) | (simp; omega) | assumption)) (d' := .l (wordsT.map .s)) rfl) (by constructor)) (xg1 7 pt_) (by first | (simp [rangeD]; omega) | (simp; omega) | (simp; done)) (comp_filter (g := D.s) (t := fun v => decide (v ≠ wordC a b)) (fun v hm => ⟨_, putn 7, XT.eq (xt_ne (xv 7) (xe_fld F.cf3 0 (xv 2) rfl rfl) (by constructor)) (by simp ), fun hf => ⟨_, (xv 7), by  rfl⟩⟩))) (xv 3) (itW num rfl hix)), ?_⟩
      refine xss_ifX ⟨_, (xt_notB (xe_call F.kn_is_comparison (by dsimp only [Wd.ga, Ga.blk]; decide) (xa_cons (xv 0) (xa_cons (xv 1) (xa_cons (xe_plus (xe_lst (xa_cons (xv 6) xa_nil) (by first | omega | (simp; done) | (simp; omega) | assumption)) (xv 5) (by first | exact AddD.i _ _ | exact AddD.s _ _ (by first | omega | (simp; done) | (simp; omega) | assumption) | exact AddD.l _ _ (by first | omega | (simp; done) | (simp; omega) | assumption) | exact AddD.t _ _ (by first | omega | (simp; done) | (simp; omega) | assumption))) xa_nil))) (sp_is_comparison F (w := o) ha hb ho2 s1 s2 (fun h => absurd h ho3))) xe_bl), fun h => ?_, fun h => ?_⟩
      · exfalso
        have : decide (o = wordF (missA a b).isSome (missA b a).isSome) = false := decide_eq_false ho3
        rw [this] at h; cases h
      refine .skip ?_
      refine xss_retX ⟨_, (xe_isB (xe_call F.kn_is_comparison (by dsimp only [Wd.ga, Ga.blk]; decide) (xa_cons (xv 0) (xa_cons (xv 1) (xa_cons (xe_plus (xe_lst (xa_cons (xe_fld F.cf3 0 (xv 2) rfl rfl) xa_nil) (by first | omega | (simp; done) | (simp; omega) | assumption)) (xv 5) (by first | exact AddD.i _ _ | exact AddD.s _ _ (by first | omega | (simp; done) | (simp; omega) | assumption) | exact AddD.l _ _ (by first | omega | (simp; done) | (simp; omega) | assumption) | exact AddD.t _ _ (by first | omega | (simp; done) | (simp; omega) | assumption))) xa_nil))) (sp_is_comparison F (w := wordC a b) ha hb (word_mem _ _) s1 s2 (fun _ h => hst h))) xe_bl), ?_⟩
      have : decide (wordC a b = wordF (missA a b).isSome (missA b a).isSome) = true := decide_eq_true rfl
      rw [this]; rfl
    refine xss_form ?_
    rcases hm : missA b a with _ | x
    · have hc : c1F b a = [] := by unfold c1F; rw [hm]
      rw [hc] at rest2
      refine xss_ifX ⟨_, (xt_notN (xe_fld F.cf3 4 (xv 2) rfl rfl)), fun h => ?_, fun h => ?_⟩
      · exfalso; rw [hm] at h; cases h
      exact .skip rest2
    · have hx := (s2.some x hm).1
      have hc : c1F b a = (madeF a (lookL b x)).2 := by unfold c1F; rw [hm]
      rw [hc] at rest2
      refine xss_ifX ⟨_, (xt_notN (xe_fld F.cf3 4 (xv 2) rfl rfl)), fun h => ?_, fun h => ?_⟩
      · refine .nx ?_ rest2
        refine xss_form ?_
        refine xss_cons (xs_setL 4 (xe_fld F.cf2 2 (xe_call F.kn_stamp_making (by dsimp only [Wd.ga, Ga.blk]; decide) (xa_cons (xv 0) (xa_cons (xe_meth F.cf1 F.km_stamp (by dsimp only [Wd.ga, Ga.blk]; decide) (xv 1) (xa_cons (XE.eq (xe_fld F.cf3 4 (xv 2) rfl rfl) (d' := .s x) (by rw [hm]; rfl)) xa_nil) (sp_stamp F (look_mem hx).1)) xa_nil)) (sp_stamp_making F ha (look_len hb hx))) rfl rfl) xe_int rfl rfl (by first | exact Or.inl rfl | exact Or.inr (Or.inl rfl)) (by first | omega | (simp; done) | (simp; omega) | assumption) (by first | omega | (simp; done) | (simp; omega) | assumption) (by decide +kernel) (by decide +kernel)) ?_
        exact xss_nil
      exfalso; rw [hm] at h; cases h
  rcases hm : missA a b with _ | x
  · have hc : c1F a b = [] := by unfold c1F; rw [hm]
    rw [hc] at rest
    refine xss_ifX ⟨_, (xt_notN (xe_fld F.cf3 3 (xv 2) rfl rfl)), fun h => ?_, fun h => ?_⟩
    · exfalso; rw [hm] at h; cases h
    exact .skip rest
  · have hx := (s1.some x hm).1
    have hc : c1F a b = (madeF b (lookL a x)).2 := by unfold c1F; rw [hm]
    rw [hc] at rest
    refine xss_ifX ⟨_, (xt_notN (xe_fld F.cf3 3 (xv 2) rfl rfl)), fun h => ?_, fun h => ?_⟩
    · refine .nx ?_ rest
      refine xss_form ?_
      refine xss_cons (xs_setL 4 (xe_fld F.cf2 2 (xe_call F.kn_stamp_making (by dsimp only [Wd.ga, Ga.blk]; decide) (xa_cons (xv 1) (xa_cons (xe_meth F.cf1 F.km_stamp (by dsimp only [Wd.ga, Ga.blk]; decide) (xv 0) (xa_cons (XE.eq (xe_fld F.cf3 3 (xv 2) rfl rfl) (d' := .s x) (by rw [hm]; rfl)) xa_nil) (sp_stamp F (look_mem hx).1)) xa_nil)) (sp_stamp_making F hb (look_len ha hx))) rfl rfl) xe_int rfl rfl (by first | exact Or.inl rfl | exact Or.inr (Or.inl rfl)) (by first | omega | (simp; done) | (simp; omega) | assumption) (by first | omega | (simp; done) | (simp; omega) | assumption) (by decide +kernel) (by decide +kernel)) ?_
      exact xss_nil
    exfalso; rw [hm] at h; cases h
end
end Q8
namespace Q8
open PySem L2 PyProof.Rows
/-! The law's stocks: only what is true of them is told. -/
theorem iq_ {ns : List Int} {k : Nat} (h : k < ns.length) : ItemD (.q ns) (k : Int) (.i (ns.getD k 0)) :=
  .q (by omega) (by rw [Int.toNat_natCast, List.getD_eq_getElem?_getD, List.getElem?_eq_getElem h]; rfl)
theorem itN {l : List Nat} {k : Int} (n : Nat) (hk : k = n) (h : n < l.length) : ItemD (.l (natsD l)) k (.i ((l.getD n 0 : Nat) : Int)) := itL (f := fun k : Nat => D.i (k : Int)) n hk 0 h
/-- a place given by an int -/
theorem inN {l : List Nat} {k : Int} (h0 : 0 ≤ k) (h : k.toNat < l.length) : ItemD (.l (natsD l)) k (.i ((l.getD k.toNat 0 : Nat) : Int)) :=
  itL (f := fun k : Nat => D.i (k : Int)) k.toNat (Int.toNat_of_nonneg h0).symm 0 h
theorem inS {x : List Nat} {k : Int} (h0 : 0 ≤ k) (h : k.toNat < x.length) (hl : x.length ≤ 100000) : ItemD (.s x) k (.s [at_ x k.toNat]) := itS k.toNat (Int.toNat_of_nonneg h0).symm h hl
def Dig (sizes out : List Nat) : Prop := All2 (fun s o => o < s) sizes out
theorem Dig.len {s o : List Nat} (h : Dig s o) : o.length = s.length := All2.len h
theorem Dig.lt {s o : List Nat} (h : Dig s o) (i : Nat) (hi : i < s.length) : o.getD i 0 < s.getD i 0 := by
  have h2 : i < o.length := by rw [h.len]; exact hi
  rw [List.getD_eq_getElem?_getD, List.getD_eq_getElem?_getD, List.getElem?_eq_getElem hi, List.getElem?_eq_getElem h2]
  exact All2.get h i hi h2
theorem All2.snoc {α β : Type} {R : α → β → Prop} : ∀ {l : List α} {m : List β} {a : α} {b : β}, All2 R l m → R a b → All2 R (l ++ [a]) (m ++ [b])
  | _, _, _, _, .nil, h => .cons h .nil
  | _, _, _, _, .cons r t, h => .cons r (t.snoc h)
section
variable {W : Wd}
theorem sp__law_cell (F : Wo W) (ns : List Int) (k : Nat) (hk : k ≤ 1000) : ∃ c : Int, RB W N__law_cell (defScope (top 68)) 2 (defBody (top 68)) 2 [.q ns, .i (k : Int)] (.i c) := by
  by_cases hlt : k < ns.length
  · refine ⟨ns.getD k 0, rfl, _, .rt _, ?_⟩
    show XSs (W.ga N__law_cell (defScope (top 68)) 2) (defBody (top 68)) [.v (.q ns), .v (.i (k : Int)), .no, .no] _; refine xss_form ?_
    refine xss_ifX ⟨true, XT.eq (xt_lt (xv 1) (xe_len F.n_len (xv 0) (by first | exact LenD.l _ | exact LenD.t _ | exact LenD.q _ | exact LenD.s _ (by first | omega | (simp; done) | (simp; omega) | assumption)))) (by exact decide_eq_true (by omega)), fun h => ?_, fun h => ?_⟩
    · refine .ret ?_
      refine xss_one (xs_ret ?_)
      exact (xe_ix (xv 0) (xv 1) (iq_ hlt))
    · cases h
  · refine ⟨(((ns.foldl (fun s a => (s * 31 + a % 1000003) % 1000003) 17) + 7) * ((k : Int) + 3) * 69621) % 2147483647, rfl, _, .rt _, ?_⟩
    show XSs (W.ga N__law_cell (defScope (top 68)) 2) (defBody (top 68)) [.v (.q ns), .v (.i (k : Int)), .no, .no] _; refine xss_form ?_
    refine xss_ifX ⟨false, XT.eq (xt_lt (xv 1) (xe_len F.n_len (xv 0) (by first | exact LenD.l _ | exact LenD.t _ | exact LenD.q _ | exact LenD.s _ (by first | omega | (simp; done) | (simp; omega) | assumption)))) (by exact decide_eq_false (by omega)), fun h => ?_, fun h => ?_⟩
    · cases h
    refine .skip ?_
    refine xss_setX 2 pt_ ⟨_, xe_int, ?_⟩
    refine xss_foldI (S := Int) (s := 17) (l := ns) (f := D.i) (step := fun s a => (s * 31 + a % 1000003) % 1000003) (E := fun s => [.v (.q ns), .v (.i (k : Int)), .v (.i s), .no]) (fun s => 0 ≤ s ∧ s < 1000003) (by omega) (xi_any (xv 0) (by constructor)) (xg1 3 pt_) (fun s hs a ha => ⟨by omega, _, [.v (.q ns), .v (.i (k : Int)), .v (.i ((s * 31 + a % 1000003) % 1000003)), .v (.i a)], putn 3, ?_, by repeat (first | exact Wk.nil | refine Wk.same ?_ | refine Wk.drop ?_ | refine Wk.shl ?_ | refine Wk.shk ?_)⟩) fun hs => ?_
    · refine xss_form ?_
      refine xss_setX 2 pt_ ⟨_, (xe_mod (xe_int1 F.n_int (xe_plus (xe_times (xv 2) xe_int (by first | exact MulD.i _ _ (by first | exact Or.inl (by omega) | exact Or.inr (by omega) | assumption) | exact MulD.s _ _ _ rfl (by first | omega | (simp; done) | (simp; omega) | assumption) (by first | omega | (simp; done) | (simp; omega) | assumption) | exact MulD.l _ _ _ rfl (by first | omega | (simp; done) | (simp; omega) | assumption) (by first | omega | (simp; done) | (simp; omega) | assumption))) (xe_mod (xe_int1 F.n_int (xv 3) (by constructor)) xe_int (by first | omega | (simp; done) | (simp; omega) | assumption)) (by first | exact AddD.i _ _ | exact AddD.s _ _ (by first | omega | (simp; done) | (simp; omega) | assumption) | exact AddD.l _ _ (by first | omega | (simp; done) | (simp; omega) | assumption) | exact AddD.t _ _ (by first | omega | (simp; done) | (simp; omega) | assumption))) (by constructor)) xe_int (by first | omega | (simp; done) | (simp; omega) | assumption)), ?_⟩
      exact xss_nil
    refine xss_one (xs_ret ?_)
    exact (xe_mod (xe_int1 F.n_int (xe_times (xe_times (xe_plus (xv 2) xe_int (by first | exact AddD.i _ _ | exact AddD.s _ _ (by first | omega | (simp; done) | (simp; omega) | assumption) | exact AddD.l _ _ (by first | omega | (simp; done) | (simp; omega) | assumption) | exact AddD.t _ _ (by first | omega | (simp; done) | (simp; omega) | assumption))) (xe_plus (xv 1) xe_int (by first | exact AddD.i _ _ | exact AddD.s _ _ (by first | omega | (simp; done) | (simp; omega) | assumption) | exact AddD.l _ _ (by first | omega | (simp; done) | (simp; omega) | assumption) | exact AddD.t _ _ (by first | omega | (simp; done) | (simp; omega) | assumption))) (by first | exact MulD.i _ _ (by first | exact Or.inl (by omega) | exact Or.inr (by omega) | assumption) | exact MulD.s _ _ _ rfl (by first | omega | (simp; done) | (simp; omega) | assumption) (by first | omega | (simp; done) | (simp; omega) | assumption) | exact MulD.l _ _ _ rfl (by first | omega | (simp; done) | (simp; omega) | assumption) (by first | omega | (simp; done) | (simp; omega) | assumption))) xe_int (by first | exact MulD.i _ _ (by first | exact Or.inl (by omega) | exact Or.inr (by omega) | assumption) | exact MulD.s _ _ _ rfl (by first | omega | (simp; done) | (simp; omega) | assumption) (by first | omega | (simp; done) | (simp; omega) | assumption) | exact MulD.l _ _ _ rfl (by first | omega | (simp; done) | (simp; omega) | assumption) (by first | omega | (simp; done) | (simp; omega) | assumption))) (by constructor)) xe_int (by first | omega | (simp; done) | (simp; omega) | assumption))
theorem sp__law_digits (F : Wo W) (c : Int) {sizes : List Nat} (hs : ∀ s ∈ sizes, 0 < s ∧ s < 1000000) (hl : sizes.length ≤ 1000) : ∃ out, Dig sizes out ∧ RB W N__law_digits (defScope (top 69)) 2 (defBody (top 69)) 2 [.i c, .l (natsD sizes)] (.l (natsD out)) := by
  have e18 : ((10 : Int) ^ (18 : Int).toNat) = 1000000000000000000 := by decide
  by_cases hc : (1000000000000000000 : Int) ≤ c
  · obtain ⟨⟨o, r⟩, hiv, hloop⟩ := loop_ex (Γ := W.ga N__law_digits (defScope (top 69)) 2) (S := List Nat × Int) (put := putN 4) (body := whB (stAt (whT (stAt (defBody (top 69)) 2)) 1)) (f := fun k : Nat => .i (k : Int)) (E := fun s => [.v (.i c), .v (.l (natsD sizes)), .ol (natsD s.1), .v (.i s.2), .no, .no, .no, .no]) (fun i s => Dig (sizes.take i) s.1) (l := sizes) 0 ([], c - 1000000000000000000) (fun i s m hm hd => by
        rw [Nat.zero_add] at hd ⊢
        have hil : i < sizes.length := (List.getElem?_eq_some_iff.mp hm).1
        have hmm := hs m (List.mem_of_getElem? hm)
        have hm1 : (0 : Int) < (m : Int) := by omega
        have hm2 : CDiv s.2 (m : Int) := ⟨by omega, by omega⟩
        have hnn : 0 ≤ s.2 % (m : Int) := Int.emod_nonneg _ (by omega)
        have hlt : s.2 % (m : Int) < (m : Int) := Int.emod_lt_of_pos _ hm1
        have hol : (natsD s.1).length < 16777216 := by
          have := hd.len
          simp [natsD] at this ⊢
          omega
        refine ⟨(s.1 ++ [(s.2 % (m : Int)).toNat], s.2 / (m : Int)), _, [.v (.i c), .v (.l (natsD sizes)), .ol (natsD (s.1 ++ [(s.2 % (m : Int)).toNat])), .v (.i (s.2 / (m : Int))), .v (.i (m : Int)), .no, .no, .no], ?_, putn 4, ?_, by repeat (first | exact Wk.nil | refine Wk.same ?_ | refine Wk.drop ?_ | refine Wk.shl ?_ | refine Wk.shk ?_)⟩
        · rw [List.take_succ_eq_append_getElem hil]
          have e : sizes[i] = m := (List.getElem?_eq_some_iff.mp hm).2
          rw [e]
          exact hd.snoc (by omega)
        · refine xss_form ?_
          refine xss_cons (xs_append 2 (xe_mod (xe_int1 F.n_int (xv 3) (by constructor)) (xv 4) hm1) rfl rfl (by first | exact Or.inl rfl | exact Or.inr (Or.inl rfl)) hol (by decide +kernel) (by decide +kernel)) ?_
          refine xss_setX 3 pt_ ⟨_, (xe_fdiv (xe_int1 F.n_int (xv 3) (by constructor)) (xv 4) hm2), ?_⟩
          simp only [List.set_cons_zero, List.set_cons_succ, natsD, List.map_append, List.map_cons, List.map_nil, Int.toNat_of_nonneg hnn]
          exact xss_nil) (by rw [List.take_zero]; exact All2.nil)
    rw [Nat.zero_add, List.take_length] at hiv
    refine ⟨o, hiv, rfl, _, .rt _, ?_⟩
    show XSs (W.ga N__law_digits (defScope (top 69)) 2) (defBody (top 69)) [.v (.i c), .v (.l (natsD sizes)), .no, .no, .no, .no, .no, .no] _; refine xss_form ?_
    refine xss_cons (xs_setN 2 (xn_lst xa_nil) pt_ (by simp)) ?_
    refine xss_setX 3 pt_ ⟨_, (xe_int1 F.n_int (xv 0) (by constructor)), ?_⟩
    refine xss_ifX ⟨true, XT.eq (xt_ge (xv 3) (xe_pow xe_int xe_int ⟨by omega, by omega, by decide⟩)) (by rw [e18]; exact decide_eq_true hc), fun h => ?_, fun h => ?_⟩
    · refine .lv ?_ (.rt _)
      refine xss_form ?_
      refine xss_setX 3 pt_ ⟨_, (xe_sub (xv 3) (xe_pow xe_int xe_int ⟨by omega, by omega, by decide⟩)), ?_⟩
      rw [e18]
      refine xss_for (xi_any (xv 1) (by constructor)) (xg1 4 pt_) (.inl ⟨_, hloop, ?_⟩)
      refine XSs.weakL (env' := [.v (.i c), .v (.l (natsD sizes)), .v (.l (natsD o)), .v (.i r), .no, .no, .no, .no]) ?_ (by repeat (first | exact Wk.nil | refine Wk.same ?_ | refine Wk.drop ?_ | refine Wk.shl ?_ | refine Wk.shk ?_))
      refine xss_one (xs_ret ?_)
      exact (xv 2)
    · cases h
  · obtain ⟨⟨o, r⟩, ⟨hiv, _⟩, hloop⟩ := loop_ex (Γ := W.ga N__law_digits (defScope (top 69)) 2) (S := List Nat × Int) (put := putN 6) (body := whB (stAt (defBody (top 69)) 4)) (f := fun k : Nat => .i (k : Int)) (E := fun s => [.v (.i c), .v (.l (natsD sizes)), .ol (natsD s.1), .v (.i c), .no, .v (.i s.2), .no, .no]) (fun i s => Dig (sizes.take i) s.1 ∧ 0 ≤ s.2 ∧ s.2 < 2147483647) (l := List.range sizes.length) 0 ([], c % 2147483629) (fun i s k hkk hd => by
        rw [Nat.zero_add] at hd ⊢
        obtain ⟨hd, hr0, hr1⟩ := hd
        have hik : i = k := by
          have hi' : i < sizes.length := by simpa using (List.getElem?_eq_some_iff.mp hkk).1
          rw [List.getElem?_range hi'] at hkk
          simpa using hkk
        subst hik
        have hk : i < sizes.length := by simpa using (List.getElem?_eq_some_iff.mp hkk).1
        have hmm := hs (sizes.getD i 0) (getD_mem' hk)
        have hm1 : (0 : Int) < ((sizes.getD i 0 : Nat) : Int) := by omega
        have hol : (natsD s.1).length < 16777216 := by
          have := hd.len
          simp [natsD] at this ⊢
          omega
        have hq0 : 0 ≤ (s.2 * 48271 + 974711 * (i : Int) + 12345) % 2147483647 := by omega
        have hq1 : (s.2 * 48271 + 974711 * (i : Int) + 12345) % 2147483647 < 2147483647 := by omega
        generalize hsd : (s.2 * 48271 + 974711 * (i : Int) + 12345) % 2147483647 = sd at hq0 hq1
        have hnn : 0 ≤ sd * (sd / 65537 + 3) % 2147483629 / 19 % ((sizes.getD i 0 : Nat) : Int) := Int.emod_nonneg _ (by omega)
        have hlt : sd * (sd / 65537 + 3) % 2147483629 / 19 % ((sizes.getD i 0 : Nat) : Int) < ((sizes.getD i 0 : Nat) : Int) := Int.emod_lt_of_pos _ hm1
        refine ⟨(s.1 ++ [(sd * (sd / 65537 + 3) % 2147483629 / 19 % ((sizes.getD i 0 : Nat) : Int)).toNat], sd), _, [.v (.i c), .v (.l (natsD sizes)), .ol (natsD (s.1 ++ [(sd * (sd / 65537 + 3) % 2147483629 / 19 % ((sizes.getD i 0 : Nat) : Int)).toNat])), .v (.i c), .no, .v (.i sd), .v (.i (i : Int)), .v (.i (sd * (sd / 65537 + 3) % 2147483629))], ⟨?_, hq0, hq1⟩, putn 6, ?_, by repeat (first | exact Wk.nil | refine Wk.same ?_ | refine Wk.drop ?_ | refine Wk.shl ?_ | refine Wk.shk ?_)⟩
        · rw [List.take_succ_eq_append_getElem hk]
          refine hd.snoc ?_
          have e : sizes.getD i 0 = sizes[i] := by rw [List.getD_eq_getElem?_getD, List.getElem?_eq_getElem hk]; rfl
          rw [← e]
          omega
        · refine xss_form ?_
          refine xss_setX 5 pt_ ⟨_, (xe_mod (xe_int1 F.n_int (xe_plus (xe_plus (xe_times (xv 5) xe_int (by first | exact MulD.i _ _ (by first | exact Or.inl (by omega) | exact Or.inr (by omega) | assumption) | exact MulD.s _ _ _ rfl (by first | omega | (simp; done) | (simp; omega) | assumption) (by first | omega | (simp; done) | (simp; omega) | assumption) | exact MulD.l _ _ _ rfl (by first | omega | (simp; done) | (simp; omega) | assumption) (by first | omega | (simp; done) | (simp; omega) | assumption))) (xe_times xe_int (xv 6) (by first | exact MulD.i _ _ (by first | exact Or.inl (by omega) | exact Or.inr (by omega) | assumption) | exact MulD.s _ _ _ rfl (by first | omega | (simp; done) | (simp; omega) | assumption) (by first | omega | (simp; done) | (simp; omega) | assumption) | exact MulD.l _ _ _ rfl (by first | omega | (simp; done) | (simp; omega) | assumption) (by first | omega | (simp; done) | (simp; omega) | assumption))) (by first | exact AddD.i _ _ | exact AddD.s _ _ (by first | omega | (simp; done) | (simp; omega) | assumption) | exact AddD.l _ _ (by first | omega | (simp; done) | (simp; omega) | assumption) | exact AddD.t _ _ (by first | omega | (simp; done) | (simp; omega) | assumption))) xe_int (by first | exact AddD.i _ _ | exact AddD.s _ _ (by first | omega | (simp; done) | (simp; omega) | assumption) | exact AddD.l _ _ (by first | omega | (simp; done) | (simp; omega) | assumption) | exact AddD.t _ _ (by first | omega | (simp; done) | (simp; omega) | assumption))) (by constructor)) xe_int (by first | omega | (simp; done) | (simp; omega) | assumption)), ?_⟩
          rw [hsd]
          refine xss_setX 7 pt_ ⟨_, (xe_mod (xe_int1 F.n_int (xe_times (xv 5) (xe_plus (xe_fdiv (xv 5) xe_int (by first | exact ⟨by omega, by omega⟩ | assumption)) xe_int (by first | exact AddD.i _ _ | exact AddD.s _ _ (by first | omega | (simp; done) | (simp; omega) | assumption) | exact AddD.l _ _ (by first | omega | (simp; done) | (simp; omega) | assumption) | exact AddD.t _ _ (by first | omega | (simp; done) | (simp; omega) | assumption))) (by first | exact MulD.i _ _ (by first | exact Or.inl (by omega) | exact Or.inr (by omega) | assumption) | exact MulD.s _ _ _ rfl (by first | omega | (simp; done) | (simp; omega) | assumption) (by first | omega | (simp; done) | (simp; omega) | assumption) | exact MulD.l _ _ _ rfl (by first | omega | (simp; done) | (simp; omega) | assumption) (by first | omega | (simp; done) | (simp; omega) | assumption))) (by constructor)) xe_int (by first | omega | (simp; done) | (simp; omega) | assumption)), ?_⟩
          refine xss_cons (xs_append 2 (xe_mod (xe_fdiv (xv 7) xe_int (by first | exact ⟨by omega, by omega⟩ | assumption)) (xe_ix (xv 1) (xv 6) (itL (f := fun k : Nat => D.i (k : Int)) i rfl 0 hk)) (by first | omega | (simp; done) | (simp; omega) | assumption)) rfl rfl (by first | exact Or.inl rfl | exact Or.inr (Or.inl rfl)) hol (by decide +kernel) (by decide +kernel)) ?_
          simp only [List.set_cons_zero, List.set_cons_succ, natsD, List.map_append, List.map_cons, List.map_nil, Int.toNat_of_nonneg hnn]
          exact xss_nil) ⟨by rw [List.take_zero]; exact All2.nil, by omega, by omega⟩
    rw [Nat.zero_add, List.length_range, List.take_length] at hiv
    refine ⟨o, hiv, rfl, _, .rt _, ?_⟩
    show XSs (W.ga N__law_digits (defScope (top 69)) 2) (defBody (top 69)) [.v (.i c), .v (.l (natsD sizes)), .no, .no, .no, .no, .no, .no] _; refine xss_form ?_
    refine xss_cons (xs_setN 2 (xn_lst xa_nil) pt_ (by simp)) ?_
    refine xss_setX 3 pt_ ⟨_, (xe_int1 F.n_int (xv 0) (by constructor)), ?_⟩
    refine xss_ifX ⟨false, XT.eq (xt_ge (xv 3) (xe_pow xe_int xe_int ⟨by omega, by omega, by decide⟩)) (by rw [e18]; exact decide_eq_false hc), fun h => ?_, fun h => ?_⟩
    · cases h
    refine .skip ?_
    refine xss_setX 5 pt_ ⟨_, (xe_mod (xe_int1 F.n_int (xv 3) (by constructor)) xe_int (by first | omega | (simp; done) | (simp; omega) | assumption)), ?_⟩
    refine xss_for (xi_range (n := sizes.length) F.n_range (XE.eq (xe_len F.n_len (xv 1) (LenD.l _)) (by simp [natsD])) (by omega)) (xg1 6 pt_) (.inl ⟨_, hloop, ?_⟩)
    refine XSs.weakL (env' := [.v (.i c), .v (.l (natsD sizes)), .v (.l (natsD o)), .v (.i c), .no, .v (.i r), .no, .no]) ?_ (by repeat (first | exact Wk.nil | refine Wk.same ?_ | refine Wk.drop ?_ | refine Wk.shl ?_ | refine Wk.shk ?_))
    refine xss_one (xs_ret ?_)
    exact (xv 2)
end
end Q8
namespace Q8
open PySem L2 PyProof.Rows
def Mk3 (m : Tx) : Prop := m.length = 3 ∧ ∀ c ∈ m, c ∈ marksT
structure OkM (m : Tx) (n : Nat) (x : Tx) : Prop where
  len : x.length = n
  signs : ∀ c ∈ x, c = 45 ∨ c ∈ m
  full : x ≠ blank n
theorem at_mem {x : Tx} {k : Nat} (h : k < x.length) : at_ x k ∈ x := by
  have e : at_ x k = x[k] := by simp [at_, List.getD_eq_getElem?_getD, h]
  rw [e]; exact List.getElem_mem h
theorem marks_at {k : Nat} (h : k < 27) : at_ marksT k ∈ marksT := at_mem h
theorem no45 : (45 : Nat) ∉ marksT := by decide
section
variable {W : Wd}
theorem sp__law_marks (F : Wo W) {l : List Nat} (hl : Dig [4, 27, 26, 25] l) : ∃ m, Mk3 m ∧ RB W N__law_marks (defScope (top 70)) 0 (defBody (top 70)) 1 [.l (natsD l)] (.s m) := by
  have hlen : l.length = 4 := hl.len
  have l0 := hl.lt 0 (by decide)
  have l1 := hl.lt 1 (by decide)
  have l2 := hl.lt 2 (by decide)
  have l3 := hl.lt 3 (by decide)
  simp only [List.getD_cons_zero, List.getD_cons_succ] at l0 l1 l2 l3
  have hm27 : marksT.length = 27 := rfl
  have f0 : 0 ≤ ((l.getD 1 0 : Nat) : Int) * (if decide (((l.getD 0 0 : Nat) : Int) < 2) = true then 1 else 0) := by split <;> omega
  have f1 : ((l.getD 1 0 : Nat) : Int) * (if decide (((l.getD 0 0 : Nat) : Int) < 2) = true then 1 else 0) < 27 := by split <;> omega
  generalize hfd : ((l.getD 1 0 : Nat) : Int) * (if decide (((l.getD 0 0 : Nat) : Int) < 2) = true then 1 else 0) = f at f0 f1
  have g0 : 0 ≤ (f + 1 + ((l.getD 2 0 : Nat) : Int)) % 27 := by omega
  suffices h : ∃ t : Int, 0 ≤ t ∧ t < 27 ∧ RB W N__law_marks (defScope (top 70)) 0 (defBody (top 70)) 1 [.l (natsD l)] (.s [at_ marksT f.toNat, at_ marksT ((f + 1 + ((l.getD 2 0 : Nat) : Int)) % 27).toNat, at_ marksT t.toNat]) by
    obtain ⟨t, t0, t1, h⟩ := h
    refine ⟨_, ⟨rfl, fun c hc => ?_⟩, h⟩
    simp only [List.mem_cons, List.not_mem_nil, or_false] at hc
    rcases hc with rfl | rfl | rfl <;> exact marks_at (by omega)
  by_cases hts : (f + 1 + ((l.getD 3 0 : Nat) : Int)) % 27 = (f + 1 + ((l.getD 2 0 : Nat) : Int)) % 27
  · refine ⟨(f + 26) % 27, by omega, by omega, rfl, _, .rt _, ?_⟩
    show XSs (W.ga N__law_marks (defScope (top 70)) 0) (defBody (top 70)) [.v (.l (natsD l)), .no, .no, .no, .no] _; refine xss_form ?_
    refine xss_setX 1 pt_ ⟨_, (xe_str (l := marksT) (by decide +kernel)), ?_⟩
    refine xss_setX 2 pt_ ⟨_, (xe_times (xe_int1 F.n_int (xe_ix (xv 0) xe_int (by first | exact itWT 1 rfl rfl | exact itW 1 rfl rfl | exact itS 1 rfl (by first | omega | (simp; done) | (simp; omega) | assumption) (by first | omega | (simp; done) | (simp; omega) | assumption) | exact itN 1 rfl (by first | omega | (simp; done) | (simp; omega) | assumption) | exact itI 1 rfl (by first | omega | (simp; done) | (simp; omega) | assumption) | exact itL 1 rfl default (by first | omega | (simp; done) | (simp; omega) | assumption) | exact itT 1 rfl default (by first | omega | (simp; done) | (simp; omega) | assumption))) (by constructor)) (xe_int1 F.n_int (xe_lt (xe_ix (xv 0) xe_int (by first | exact itWT 0 rfl rfl | exact itW 0 rfl rfl | exact itS 0 rfl (by first | omega | (simp; done) | (simp; omega) | assumption) (by first | omega | (simp; done) | (simp; omega) | assumption) | exact itN 0 rfl (by first | omega | (simp; done) | (simp; omega) | assumption) | exact itI 0 rfl (by first | omega | (simp; done) | (simp; omega) | assumption) | exact itL 0 rfl default (by first | omega | (simp; done) | (simp; omega) | assumption) | exact itT 0 rfl default (by first | omega | (simp; done) | (simp; omega) | assumption))) xe_int) (by constructor)) (by first | exact MulD.i _ _ (by first | exact Or.inl (by omega) | exact Or.inr (by omega) | assumption) | exact MulD.s _ _ _ rfl (by first | omega | (simp; done) | (simp; omega) | assumption) (by first | omega | (simp; done) | (simp; omega) | assumption) | exact MulD.l _ _ _ rfl (by first | omega | (simp; done) | (simp; omega) | assumption) (by first | omega | (simp; done) | (simp; omega) | assumption))), ?_⟩
    rw [hfd]
    refine xss_setX 3 pt_ ⟨_, (xe_mod (xe_plus (xe_plus (xv 2) xe_int (by first | exact AddD.i _ _ | exact AddD.s _ _ (by first | omega | (simp; done) | (simp; omega) | assumption) | exact AddD.l _ _ (by first | omega | (simp; done) | (simp; omega) | assumption) | exact AddD.t _ _ (by first | omega | (simp; done) | (simp; omega) | assumption))) (xe_int1 F.n_int (xe_ix (xv 0) xe_int (by first | exact itWT 2 rfl rfl | exact itW 2 rfl rfl | exact itS 2 rfl (by first | omega | (simp; done) | (simp; omega) | assumption) (by first | omega | (simp; done) | (simp; omega) | assumption) | exact itN 2 rfl (by first | omega | (simp; done) | (simp; omega) | assumption) | exact itI 2 rfl (by first | omega | (simp; done) | (simp; omega) | assumption) | exact itL 2 rfl default (by first | omega | (simp; done) | (simp; omega) | assumption) | exact itT 2 rfl default (by first | omega | (simp; done) | (simp; omega) | assumption))) (by constructor)) (by first | exact AddD.i _ _ | exact AddD.s _ _ (by first | omega | (simp; done) | (simp; omega) | assumption) | exact AddD.l _ _ (by first | omega | (simp; done) | (simp; omega) | assumption) | exact AddD.t _ _ (by first | omega | (simp; done) | (simp; omega) | assumption))) xe_int (by first | omega | (simp; done) | (simp; omega) | assumption)), ?_⟩
    refine xss_setX 4 pt_ ⟨_, (xe_mod (xe_plus (xe_plus (xv 2) xe_int (by first | exact AddD.i _ _ | exact AddD.s _ _ (by first | omega | (simp; done) | (simp; omega) | assumption) | exact AddD.l _ _ (by first | omega | (simp; done) | (simp; omega) | assumption) | exact AddD.t _ _ (by first | omega | (simp; done) | (simp; omega) | assumption))) (xe_int1 F.n_int (xe_ix (xv 0) xe_int (by first | exact itWT 3 rfl rfl | exact itW 3 rfl rfl | exact itS 3 rfl (by first | omega | (simp; done) | (simp; omega) | assumption) (by first | omega | (simp; done) | (simp; omega) | assumption) | exact itN 3 rfl (by first | omega | (simp; done) | (simp; omega) | assumption) | exact itI 3 rfl (by first | omega | (simp; done) | (simp; omega) | assumption) | exact itL 3 rfl default (by first | omega | (simp; done) | (simp; omega) | assumption) | exact itT 3 rfl default (by first | omega | (simp; done) | (simp; omega) | assumption))) (by constructor)) (by first | exact AddD.i _ _ | exact AddD.s _ _ (by first | omega | (simp; done) | (simp; omega) | assumption) | exact AddD.l _ _ (by first | omega | (simp; done) | (simp; omega) | assumption) | exact AddD.t _ _ (by first | omega | (simp; done) | (simp; omega) | assumption))) xe_int (by first | omega | (simp; done) | (simp; omega) | assumption)), ?_⟩
    refine xss_ifX ⟨_, (xt_eq (xv 4) (xv 3) (by constructor)), fun h => ?_, fun h => ?_⟩
    · refine .nx (xss_form ?_) (e := [.v (.l (natsD l)), .v (.s marksT), .v (.i f), .v (.i ((f + 1 + ((l.getD 2 0 : Nat) : Int)) % 27)), .v (.i ((f + 26) % 27))]) ?_
      · refine xss_setX 4 pt_ ⟨_, (xe_mod (xe_plus (xv 2) xe_int (by first | exact AddD.i _ _ | exact AddD.s _ _ (by first | omega | (simp; done) | (simp; omega) | assumption) | exact AddD.l _ _ (by first | omega | (simp; done) | (simp; omega) | assumption) | exact AddD.t _ _ (by first | omega | (simp; done) | (simp; omega) | assumption))) xe_int (by first | omega | (simp; done) | (simp; omega) | assumption)), ?_⟩
        exact xss_nil
      refine xss_one (xs_ret ?_)
      exact (xe_plus (xe_plus (xe_ix (xv 1) (xv 2) (inS f0 (by rw [hm27]; omega) (by rw [hm27]; omega))) (xe_ix (xv 1) (xv 3) (inS g0 (by rw [hm27]; omega) (by rw [hm27]; omega))) (by first | exact AddD.i _ _ | exact AddD.s _ _ (by first | omega | (simp; done) | (simp; omega) | assumption) | exact AddD.l _ _ (by first | omega | (simp; done) | (simp; omega) | assumption) | exact AddD.t _ _ (by first | omega | (simp; done) | (simp; omega) | assumption))) (xe_ix (xv 1) (xv 4) (inS (by omega) (by rw [hm27]; omega) (by rw [hm27]; omega))) (by first | exact AddD.i _ _ | exact AddD.s _ _ (by first | omega | (simp; done) | (simp; omega) | assumption) | exact AddD.l _ _ (by first | omega | (simp; done) | (simp; omega) | assumption) | exact AddD.t _ _ (by first | omega | (simp; done) | (simp; omega) | assumption)))
    · exact absurd hts (of_decide_eq_false h)
  · refine ⟨(f + 1 + ((l.getD 3 0 : Nat) : Int)) % 27, by omega, by omega, rfl, _, .rt _, ?_⟩
    show XSs (W.ga N__law_marks (defScope (top 70)) 0) (defBody (top 70)) [.v (.l (natsD l)), .no, .no, .no, .no] _; refine xss_form ?_
    refine xss_setX 1 pt_ ⟨_, (xe_str (l := marksT) (by decide +kernel)), ?_⟩
    refine xss_setX 2 pt_ ⟨_, (xe_times (xe_int1 F.n_int (xe_ix (xv 0) xe_int (by first | exact itWT 1 rfl rfl | exact itW 1 rfl rfl | exact itS 1 rfl (by first | omega | (simp; done) | (simp; omega) | assumption) (by first | omega | (simp; done) | (simp; omega) | assumption) | exact itN 1 rfl (by first | omega | (simp; done) | (simp; omega) | assumption) | exact itI 1 rfl (by first | omega | (simp; done) | (simp; omega) | assumption) | exact itL 1 rfl default (by first | omega | (simp; done) | (simp; omega) | assumption) | exact itT 1 rfl default (by first | omega | (simp; done) | (simp; omega) | assumption))) (by constructor)) (xe_int1 F.n_int (xe_lt (xe_ix (xv 0) xe_int (by first | exact itWT 0 rfl rfl | exact itW 0 rfl rfl | exact itS 0 rfl (by first | omega | (simp; done) | (simp; omega) | assumption) (by first | omega | (simp; done) | (simp; omega) | assumption) | exact itN 0 rfl (by first | omega | (simp; done) | (simp; omega) | assumption) | exact itI 0 rfl (by first | omega | (simp; done) | (simp; omega) | assumption) | exact itL 0 rfl default (by first | omega | (simp; done) | (simp; omega) | assumption) | exact itT 0 rfl default (by first | omega | (simp; done) | (simp; omega) | assumption))) xe_int) (by constructor)) (by first | exact MulD.i _ _ (by first | exact Or.inl (by omega) | exact Or.inr (by omega) | assumption) | exact MulD.s _ _ _ rfl (by first | omega | (simp; done) | (simp; omega) | assumption) (by first | omega | (simp; done) | (simp; omega) | assumption) | exact MulD.l _ _ _ rfl (by first | omega | (simp; done) | (simp; omega) | assumption) (by first | omega | (simp; done) | (simp; omega) | assumption))), ?_⟩
    rw [hfd]
    refine xss_setX 3 pt_ ⟨_, (xe_mod (xe_plus (xe_plus (xv 2) xe_int (by first | exact AddD.i _ _ | exact AddD.s _ _ (by first | omega | (simp; done) | (simp; omega) | assumption) | exact AddD.l _ _ (by first | omega | (simp; done) | (simp; omega) | assumption) | exact AddD.t _ _ (by first | omega | (simp; done) | (simp; omega) | assumption))) (xe_int1 F.n_int (xe_ix (xv 0) xe_int (by first | exact itWT 2 rfl rfl | exact itW 2 rfl rfl | exact itS 2 rfl (by first | omega | (simp; done) | (simp; omega) | assumption) (by first | omega | (simp; done) | (simp; omega) | assumption) | exact itN 2 rfl (by first | omega | (simp; done) | (simp; omega) | assumption) | exact itI 2 rfl (by first | omega | (simp; done) | (simp; omega) | assumption) | exact itL 2 rfl default (by first | omega | (simp; done) | (simp; omega) | assumption) | exact itT 2 rfl default (by first | omega | (simp; done) | (simp; omega) | assumption))) (by constructor)) (by first | exact AddD.i _ _ | exact AddD.s _ _ (by first | omega | (simp; done) | (simp; omega) | assumption) | exact AddD.l _ _ (by first | omega | (simp; done) | (simp; omega) | assumption) | exact AddD.t _ _ (by first | omega | (simp; done) | (simp; omega) | assumption))) xe_int (by first | omega | (simp; done) | (simp; omega) | assumption)), ?_⟩
    refine xss_setX 4 pt_ ⟨_, (xe_mod (xe_plus (xe_plus (xv 2) xe_int (by first | exact AddD.i _ _ | exact AddD.s _ _ (by first | omega | (simp; done) | (simp; omega) | assumption) | exact AddD.l _ _ (by first | omega | (simp; done) | (simp; omega) | assumption) | exact AddD.t _ _ (by first | omega | (simp; done) | (simp; omega) | assumption))) (xe_int1 F.n_int (xe_ix (xv 0) xe_int (by first | exact itWT 3 rfl rfl | exact itW 3 rfl rfl | exact itS 3 rfl (by first | omega | (simp; done) | (simp; omega) | assumption) (by first | omega | (simp; done) | (simp; omega) | assumption) | exact itN 3 rfl (by first | omega | (simp; done) | (simp; omega) | assumption) | exact itI 3 rfl (by first | omega | (simp; done) | (simp; omega) | assumption) | exact itL 3 rfl default (by first | omega | (simp; done) | (simp; omega) | assumption) | exact itT 3 rfl default (by first | omega | (simp; done) | (simp; omega) | assumption))) (by constructor)) (by first | exact AddD.i _ _ | exact AddD.s _ _ (by first | omega | (simp; done) | (simp; omega) | assumption) | exact AddD.l _ _ (by first | omega | (simp; done) | (simp; omega) | assumption) | exact AddD.t _ _ (by first | omega | (simp; done) | (simp; omega) | assumption))) xe_int (by first | omega | (simp; done) | (simp; omega) | assumption)), ?_⟩
    refine xss_ifX ⟨_, (xt_eq (xv 4) (xv 3) (by constructor)), fun h => ?_, fun h => ?_⟩
    · exact absurd (of_decide_eq_true h) hts
    refine .skip ?_
    refine xss_one (xs_ret ?_)
    exact (xe_plus (xe_plus (xe_ix (xv 1) (xv 2) (inS f0 (by rw [hm27]; omega) (by rw [hm27]; omega))) (xe_ix (xv 1) (xv 3) (inS g0 (by rw [hm27]; omega) (by rw [hm27]; omega))) (by first | exact AddD.i _ _ | exact AddD.s _ _ (by first | omega | (simp; done) | (simp; omega) | assumption) | exact AddD.l _ _ (by first | omega | (simp; done) | (simp; omega) | assumption) | exact AddD.t _ _ (by first | omega | (simp; done) | (simp; omega) | assumption))) (xe_ix (xv 1) (xv 4) (inS (by omega) (by rw [hm27]; omega) (by rw [hm27]; omega))) (by first | exact AddD.i _ _ | exact AddD.s _ _ (by first | omega | (simp; done) | (simp; omega) | assumption) | exact AddD.l _ _ (by first | omega | (simp; done) | (simp; omega) | assumption) | exact AddD.t _ _ (by first | omega | (simp; done) | (simp; omega) | assumption)))
end
/-! ### slices by ints, one sign changed -/
theorem sIx_pos {n d : Nat} {k : Int} (h : 0 ≤ k) : HT.sIx n d (some k) = min k.toNat n := by
  show (if k < 0 then _ else _) = _
  rw [if_neg (by omega)]
theorem cut_to {α : Type} {xs : List α} {k : Int} (h : 0 ≤ k) : cutD xs none (some k) = xs.take k.toNat := by
  unfold cutD
  rw [HT.sIx_none, sIx_pos h, List.drop_zero, Nat.sub_zero]
  rcases Nat.le_total k.toNat xs.length with c | c
  · rw [Nat.min_eq_left c]
  · rw [Nat.min_eq_right c, List.take_of_length_le (Nat.le_refl _), List.take_of_length_le c]
theorem cut_from {α : Type} {xs : List α} {k : Int} (h : 0 ≤ k) : cutD xs (some k) none = xs.drop k.toNat := by
  unfold cutD
  rw [HT.sIx_none, sIx_pos h]
  rcases Nat.le_total k.toNat xs.length with c | c
  · rw [Nat.min_eq_left c, List.take_of_length_le (by simp)]
  · rw [Nat.min_eq_right c, List.drop_of_length_le (Nat.le_refl _), List.drop_of_length_le c]; simp
def setAt (x : Tx) (a : Nat) (c : Nat) : Tx := x.take a ++ [c] ++ x.drop (a + 1)
theorem setAt_len {x : Tx} {a c : Nat} (h : a < x.length) : (setAt x a c).length = x.length := by simp [setAt]; omega
theorem setAt_mem {x : Tx} {a c d : Nat} (h : d ∈ setAt x a c) : d ∈ x ∨ d = c := by
  unfold setAt at h
  rcases List.mem_append.mp h with h | h
  · rcases List.mem_append.mp h with h | h
    · exact .inl (List.mem_of_mem_take h)
    · exact .inr (List.mem_singleton.mp h)
  · exact .inl (List.mem_of_mem_drop h)
theorem blank_mem {n c : Nat} (h : c ∈ blank n) : c = 45 := (List.mem_replicate.mp h).2
theorem setAt_full {x : Tx} {a c n : Nat} (hc : c ≠ 45) : setAt x a c ≠ blank n := fun h => by
  have : c ∈ setAt x a c := by unfold setAt; simp
  rw [h] at this
  exact hc (blank_mem this)
theorem blankS (n : Nat) : (List.replicate n [45]).flatten = blank n := by simp [blank]
theorem nsum_nonneg : ∀ l : List Nat, 0 ≤ (l.map fun k : Nat => (k : Int)).sum
  | [] => by simp
  | a :: l => by
    have := nsum_nonneg l
    rw [List.map_cons, List.sum_cons]
    omega
section
variable {W : Wd}
/-- the eight signs of which a stamp is drawn -/
def eightT (m : Tx) : Tx := [45, 45, 45, 45] ++ [at_ m 0] ++ [at_ m 0] ++ [at_ m 1] ++ [at_ m 2]
theorem eight_mem {m : Tx} (hm : Mk3 m) : ∀ c ∈ eightT m, c = 45 ∨ c ∈ m := by
  intro c hc
  unfold eightT at hc
  simp only [List.mem_append, List.mem_cons, List.not_mem_nil, or_false] at hc
  have h3 := hm.1
  have a0 : at_ m 0 ∈ m := at_mem (by omega)
  have a1 : at_ m 1 ∈ m := at_mem (by omega)
  have a2 : at_ m 2 ∈ m := at_mem (by omega)
  rcases hc with (((h | h) | h) | h) | h
  · left; rcases h with h | h | h | h <;> exact h
  · exact .inr (h ▸ a0)
  · exact .inr (h ▸ a0)
  · exact .inr (h ▸ a1)
  · exact .inr (h ▸ a2)
theorem sp__law_stamp (F : Wo W) {m : Tx} {l : List Nat} {n : Nat} (hm3 : Mk3 m) (hl : n ≤ l.length) (h0 : 1 ≤ n) (hn : n ≤ 30) : ∃ x, OkM m n x ∧ RB W N__law_stamp (defScope (top 71)) 0 (defBody (top 71)) 3 [.s m, .l (natsD l), .i (n : Int)] (.s x) := by
  have hml := hm3.1
  have h8 : (eightT m).length = 8 := rfl
  have e : ((List.range n).map fun k : Nat => [at_ (eightT m) (((l.getD k 0 : Nat) : Int) % 8).toNat]).flatten = tab n fun k => at_ (eightT m) (((l.getD k 0 : Nat) : Int) % 8).toNat := flat_tab _ _
  generalize hT : (tab n fun k => at_ (eightT m) (((l.getD k 0 : Nat) : Int) % 8).toNat) = T at e
  have hTl : T.length = n := by rw [← hT, tab_len]
  have hTs : ∀ c ∈ T, c = 45 ∨ c ∈ m := fun c hc => by
    rw [← hT] at hc
    obtain ⟨k, hk, rfl⟩ := List.mem_map.mp hc
    exact eight_mem hm3 _ (at_mem (by rw [h8]; omega))
  have hz : T.length ≤ 100000 := by omega
  have hsum := nsum_nonneg l
  by_cases hb : T = blank n
  · have hi0 : at_ m ((((l.getD 0 0 : Nat) : Int) % 2).toNat) ∈ m := at_mem (by omega)
    have ha0 : 0 ≤ (l.map fun k : Nat => (k : Int)).sum % (n : Int) := Int.emod_nonneg _ (by omega)
    have ha1 : (l.map fun k : Nat => (k : Int)).sum % (n : Int) < (n : Int) := Int.emod_lt_of_pos _ (by omega)
    refine ⟨setAt T ((l.map fun k : Nat => (k : Int)).sum % (n : Int)).toNat (at_ m (((l.getD 0 0 : Nat) : Int) % 2).toNat), ⟨by rw [setAt_len (by omega), hTl], fun c hc => ?_, setAt_full fun z => no45 (z ▸ hm3.2 _ hi0)⟩, rfl, _, .rt _, ?_⟩
    · rcases setAt_mem hc with z | rfl
      · exact hTs c z
      · exact .inr hi0
    show XSs (W.ga N__law_stamp (defScope (top 71)) 0) (defBody (top 71)) [.v (.s m), .v (.l (natsD l)), .v (.i (n : Int)), .no, .no, .no] _; refine xss_form ?_
    refine xss_setX 3 pt_ ⟨_, (xe_joinE (xe_str (l := []) (by decide +kernel)) (xe_lc (own := [("_law_k", 5)]) lc_ (xi_range F.n_range (xv 2) (by first | omega | (simp; done) | (simp; omega) | assumption)) (xg1 5 pt_) (by first | (simp [rangeD]; omega) | (simp; omega) | (simp; done)) (comp_mapS (g := fun k : Nat => [at_ (eightT m) (((l.getD k 0 : Nat) : Int) % 8).toNat]) (fun k hm => have hk := List.mem_range.mp hm; ⟨_, _, putn 5, (xe_ix (XE.eq (xe_plus (xe_plus (xe_plus (xe_plus (xe_str (l := [45, 45, 45, 45]) (by decide +kernel)) (xe_ix (xv 0) xe_int (itS 0 rfl (by omega) (by omega))) (AddD.s _ _ (by simp))) (xe_ix (xv 0) xe_int (itS 0 rfl (by omega) (by omega))) (AddD.s _ _ (by simp))) (xe_ix (xv 0) xe_int (itS 1 rfl (by omega) (by omega))) (AddD.s _ _ (by simp))) (xe_ix (xv 0) xe_int (itS 2 rfl (by omega) (by omega))) (AddD.s _ _ (by simp))) (d' := .s (eightT m)) rfl) (xe_mod (xe_int1 F.n_int (xe_ix (xv 1) (xv 5) (itN k rfl (by omega))) (by constructor)) xe_int (by first | omega | (simp; done) | (simp; omega) | assumption)) (inS (by omega) (by rw [h8]; omega) (by rw [h8]; omega))), by rfl⟩))) (by first | assumption | rfl) (by first | assumption | (simp; omega) | omega)), ?_⟩
    refine xss_ifX ⟨_, (xt_eq (xv 3) (xe_times (xe_str (l := [45]) (by decide +kernel)) (xv 2) (by first | exact MulD.i _ _ (by first | exact Or.inl (by omega) | exact Or.inr (by omega) | assumption) | exact MulD.s _ _ _ rfl (by first | omega | (simp; done) | (simp; omega) | assumption) (by first | omega | (simp; done) | (simp; omega) | assumption) | exact MulD.l _ _ _ rfl (by first | omega | (simp; done) | (simp; omega) | assumption) (by first | omega | (simp; done) | (simp; omega) | assumption))) (by constructor)), fun h => ?_, fun h => ?_⟩
    · generalize hA : (l.map fun k : Nat => (k : Int)).sum % (n : Int) = A at ha0 ha1
      refine .nx (xss_form ?_) (e := [.v (.s m), .v (.l (natsD l)), .v (.i (n : Int)), .v (.s (setAt T A.toNat (at_ m (((l.getD 0 0 : Nat) : Int) % 2).toNat))), .v (.i A), .no]) ?_
      · refine xss_setX 4 pt_ ⟨_, (xe_mod (xe_int1 F.n_int (xe_sum F.n_sum (XE.eq (xv 1) (by rw [natsD_eq]))) (by constructor)) (xv 2) (by first | omega | (simp; done) | (simp; omega) | assumption)), ?_⟩
        rw [hA]
        refine xss_setX 3 pt_ ⟨_, (xe_plus (xe_plus (XE.eq (xe_slS (xv 3) part_none (part_some (xv 4)) hz) (by rw [cut_to ha0])) (xe_ix (xv 0) (xe_mod (xe_int1 F.n_int (xe_ix (xv 1) xe_int (itN 0 rfl (by omega))) (by constructor)) xe_int (by first | omega | (simp; done) | (simp; omega) | assumption)) (inS (by omega) (by omega) (by omega))) (by first | exact AddD.i _ _ | exact AddD.s _ _ (by first | omega | (simp; done) | (simp; omega) | assumption) | exact AddD.l _ _ (by first | omega | (simp; done) | (simp; omega) | assumption) | exact AddD.t _ _ (by first | omega | (simp; done) | (simp; omega) | assumption))) (XE.eq (xe_slS (xv 3) (part_some (xe_plus (xv 4) xe_int (by first | exact AddD.i _ _ | exact AddD.s _ _ (by first | omega | (simp; done) | (simp; omega) | assumption) | exact AddD.l _ _ (by first | omega | (simp; done) | (simp; omega) | assumption) | exact AddD.t _ _ (by first | omega | (simp; done) | (simp; omega) | assumption)))) part_none hz) (by rw [cut_from (by omega)])) (by first | exact AddD.i _ _ | exact AddD.s _ _ (by first | omega | (simp; done) | (simp; omega) | assumption) | exact AddD.l _ _ (by first | omega | (simp; done) | (simp; omega) | assumption) | exact AddD.t _ _ (by first | omega | (simp; done) | (simp; omega) | assumption))), ?_⟩
        have e2 : (A + 1).toNat = A.toNat + 1 := by omega
        rw [e2]
        exact xss_nil
      refine xss_one (xs_ret ?_)
      exact (xv 3)
    · rw [blankS] at h
      exact absurd hb (of_decide_eq_false h)
  · refine ⟨T, ⟨hTl, hTs, hb⟩, rfl, _, .rt _, ?_⟩
    show XSs (W.ga N__law_stamp (defScope (top 71)) 0) (defBody (top 71)) [.v (.s m), .v (.l (natsD l)), .v (.i (n : Int)), .no, .no, .no] _; refine xss_form ?_
    refine xss_setX 3 pt_ ⟨_, (xe_joinE (xe_str (l := []) (by decide +kernel)) (xe_lc (own := [("_law_k", 5)]) lc_ (xi_range F.n_range (xv 2) (by first | omega | (simp; done) | (simp; omega) | assumption)) (xg1 5 pt_) (by first | (simp [rangeD]; omega) | (simp; omega) | (simp; done)) (comp_mapS (g := fun k : Nat => [at_ (eightT m) (((l.getD k 0 : Nat) : Int) % 8).toNat]) (fun k hm => have hk := List.mem_range.mp hm; ⟨_, _, putn 5, (xe_ix (XE.eq (xe_plus (xe_plus (xe_plus (xe_plus (xe_str (l := [45, 45, 45, 45]) (by decide +kernel)) (xe_ix (xv 0) xe_int (itS 0 rfl (by omega) (by omega))) (AddD.s _ _ (by simp))) (xe_ix (xv 0) xe_int (itS 0 rfl (by omega) (by omega))) (AddD.s _ _ (by simp))) (xe_ix (xv 0) xe_int (itS 1 rfl (by omega) (by omega))) (AddD.s _ _ (by simp))) (xe_ix (xv 0) xe_int (itS 2 rfl (by omega) (by omega))) (AddD.s _ _ (by simp))) (d' := .s (eightT m)) rfl) (xe_mod (xe_int1 F.n_int (xe_ix (xv 1) (xv 5) (itN k rfl (by omega))) (by constructor)) xe_int (by first | omega | (simp; done) | (simp; omega) | assumption)) (inS (by omega) (by rw [h8]; omega) (by rw [h8]; omega))), by rfl⟩))) (by first | assumption | rfl) (by first | assumption | (simp; omega) | omega)), ?_⟩
    refine xss_ifX ⟨_, (xt_eq (xv 3) (xe_times (xe_str (l := [45]) (by decide +kernel)) (xv 2) (by first | exact MulD.i _ _ (by first | exact Or.inl (by omega) | exact Or.inr (by omega) | assumption) | exact MulD.s _ _ _ rfl (by first | omega | (simp; done) | (simp; omega) | assumption) (by first | omega | (simp; done) | (simp; omega) | assumption) | exact MulD.l _ _ _ rfl (by first | omega | (simp; done) | (simp; omega) | assumption) (by first | omega | (simp; done) | (simp; omega) | assumption))) (by constructor)), fun h => ?_, fun h => ?_⟩
    · rw [blankS] at h
      exact absurd (of_decide_eq_true h) hb
    refine .skip ?_
    refine xss_one (xs_ret ?_)
    exact (xv 3)
end
end Q8
namespace Q8
open PySem L2 PyProof.Rows
theorem not_blank {n : Nat} {x : Tx} (h : x.length = n) (hb : x ≠ blank n) : ∃ k, k < n ∧ at_ x k ≠ 45 := by
  apply Classical.byContradiction
  intro hn
  refine hb (tx_ext (by rw [h, blank_len]) fun k hk => ?_)
  rw [h] at hk
  rw [at_blank hk]
  exact Classical.byContradiction fun z => hn ⟨k, hk, z⟩
theorem blank_not {n : Nat} {x : Tx} {k : Nat} (hk : k < n) (h : at_ x k ≠ 45) : x ≠ blank n := fun e => h (by rw [e, at_blank hk])
theorem OkM.at {m : Tx} {n : Nat} {x : Tx} (h : OkM m n x) {k : Nat} (hk : k < n) : at_ x k = 45 ∨ at_ x k ∈ m := h.signs _ (at_mem (by rw [h.len]; exact hk))
theorem Mk3.no {m : Tx} (h : Mk3 m) : 45 ∉ m := fun z => no45 (h.2 _ z)
theorem Mk3.at {m : Tx} (h : Mk3 m) {k : Nat} (hk : k < 3) : at_ m k ∈ m := at_mem (by rw [h.1]; exact hk)
theorem idx_at {y : Tx} {c : Nat} (h : c ∈ y) : y.idxOf c < y.length ∧ at_ y (y.idxOf c) = c := by
  have hl := List.idxOf_lt_length_of_mem h
  refine ⟨hl, ?_⟩
  simp [at_, List.getD_eq_getElem?_getD, hl]
theorem in_dash {c : Nat} {m : Tx} (h : c = 45 ∨ c ∈ m) : c ∈ [45] ++ m := by rcases h with z | z <;> simp [z]
theorem in_dash2 {c : Nat} {m : Tx} (h : c = 45 ∨ c ∈ m) : c ∈ [45] ++ m ++ [45] := by rcases h with z | z <;> simp [z]
section
variable {W : Wd}
theorem sp__law_recoloured (F : Wo W) {old nw : Tx} {n : Nat} {x : Tx} (ho : Mk3 old) (hw : Mk3 nw) (hn : n ≤ 30) (hx : OkM old n x) : ∃ y, OkM nw n y ∧ RB W N__law_recoloured (defScope (top 82)) 0 (defBody (top 82)) 3 [.s x, .s old, .s nw] (.s y) := by
  have h1 := ho.1
  have h2 := hw.1
  have hxl := hx.len
  refine ⟨x.map fun c => at_ ([45] ++ nw) (([45] ++ old).idxOf c), ⟨by simp [hxl], fun d hd => ?_, ?_⟩, rfl, _, .rt _, ?_⟩
  · obtain ⟨c, hc, rfl⟩ := List.mem_map.mp hd
    have hc' : c ∈ [45] ++ old := by rcases hx.signs c hc with z | z <;> simp [z]
    have hi := (idx_at hc').1
    have := at_mem (x := [45] ++ nw) (k := ([45] ++ old).idxOf c) (by simp at hi ⊢; omega)
    simpa using this
  · obtain ⟨k, hk, hk2⟩ := not_blank hxl hx.full
    refine blank_not hk ?_
    have e : at_ (x.map fun c => at_ ([45] ++ nw) (([45] ++ old).idxOf c)) k = at_ ([45] ++ nw) (([45] ++ old).idxOf (at_ x k)) := by
      simp [at_, List.getD_eq_getElem?_getD, hxl, hk]
    rw [e]
    have hc' : at_ x k ∈ [45] ++ old := in_dash (hx.at hk)
    obtain ⟨hi, hi2⟩ := idx_at hc'
    generalize ([45] ++ old).idxOf (at_ x k) = i at hi hi2
    cases i with
    | zero => exact absurd hi2.symm hk2
    | succ i =>
      have : at_ ([45] ++ nw) (i + 1) = at_ nw i := rfl
      rw [this]
      intro z
      exact hw.no (z ▸ at_mem (x := nw) (k := i) (by simp at hi; omega))
  show XSs (W.ga N__law_recoloured (defScope (top 82)) 0) (defBody (top 82)) [.v (.s x), .v (.s old), .v (.s nw), .no] _; refine xss_form ?_
  have e : (x.map fun c => [at_ ([45] ++ nw) (([45] ++ old).idxOf c)]).flatten = x.map fun c => at_ ([45] ++ nw) (([45] ++ old).idxOf c) := flat_tab _ _
  have hl : (x.map fun c => at_ ([45] ++ nw) (([45] ++ old).idxOf c)).length ≤ 100000 := by simp; omega
  refine xss_one (xs_ret ?_)
  exact (xe_joinE (xe_str (l := []) (by decide +kernel)) (xe_lc (own := [("_law_sign", 3)]) lc_ (xi_any (xv 0) (by constructor)) (xg1 3 pt_) (by first | (simp [rangeD]; omega) | (simp; omega) | (simp; done)) (comp_mapS (g := fun c => [at_ ([45] ++ nw) (([45] ++ old).idxOf c)]) (fun c hm => have hc : c ∈ [45] ++ old := (by rcases hx.signs c hm with z | z <;> simp [z]); ⟨_, _, putn 3, (xe_ix (xe_plus (xe_str (l := [45]) (by decide +kernel)) (xv 2) (by first | exact AddD.i _ _ | exact AddD.s _ _ (by first | omega | (simp; done) | (simp; omega) | assumption) | exact AddD.l _ _ (by first | omega | (simp; done) | (simp; omega) | assumption) | exact AddD.t _ _ (by first | omega | (simp; done) | (simp; omega) | assumption))) (xe_index (xe_plus (xe_str (l := [45]) (by decide +kernel)) (xv 1) (by first | exact AddD.i _ _ | exact AddD.s _ _ (by first | omega | (simp; done) | (simp; omega) | assumption) | exact AddD.l _ _ (by first | omega | (simp; done) | (simp; omega) | assumption) | exact AddD.t _ _ (by first | omega | (simp; done) | (simp; omega) | assumption))) (xv 3) (by first | omega | (simp; done) | (simp; omega) | assumption)) (itS _ rfl (by have := (idx_at hc).1; simp at this ⊢; omega) (by simp; omega))), by rfl⟩))) (by first | assumption | rfl) (by first | assumption | (simp; omega) | omega))
theorem sp__law_sheet (F : Wo W) {m : Tx} {l : List Nat} {n : Nat} (hm3 : Mk3 m) (hl : n ≤ l.length) (hn : n ≤ 30) : ∃ x : Tx, x.length = n ∧ RB W N__law_sheet (defScope (top 90)) 0 (defBody (top 90)) 3 [.s m, .l (natsD l), .i (n : Int)] (.s x) := by
  have h1 := hm3.1
  refine ⟨tab n fun k => at_ ([at_ m 0] ++ m) (((l.getD k 0 : Nat) : Int) % 4).toNat, tab_len _ _, rfl, _, .rt _, ?_⟩
  show XSs (W.ga N__law_sheet (defScope (top 90)) 0) (defBody (top 90)) [.v (.s m), .v (.l (natsD l)), .v (.i (n : Int)), .no] _; refine xss_form ?_
  have e : ((List.range n).map fun k : Nat => [at_ ([at_ m 0] ++ m) (((l.getD k 0 : Nat) : Int) % 4).toNat]).flatten = tab n fun k => at_ ([at_ m 0] ++ m) (((l.getD k 0 : Nat) : Int) % 4).toNat := flat_tab _ _
  have hl : (tab n fun k => at_ ([at_ m 0] ++ m) (((l.getD k 0 : Nat) : Int) % 4).toNat).length ≤ 100000 := by rw [tab_len]; omega
  refine xss_one (xs_ret ?_)
  exact (xe_joinE (xe_str (l := []) (by decide +kernel)) (xe_lc (own := [("_law_k", 3)]) lc_ (xi_range F.n_range (xv 2) (by first | omega | (simp; done) | (simp; omega) | assumption)) (xg1 3 pt_) (by first | (simp [rangeD]; omega) | (simp; omega) | (simp; done)) (comp_mapS (g := fun k : Nat => [at_ ([at_ m 0] ++ m) (((l.getD k 0 : Nat) : Int) % 4).toNat]) (fun k hm => have hk := List.mem_range.mp hm; ⟨_, _, putn 3, (xe_ix (XE.eq (xe_plus (xe_ix (xv 0) xe_int (itS 0 rfl (by omega) (by omega))) (xv 0) (AddD.s _ _ (by simp; omega))) (d' := .s ([at_ m 0] ++ m)) rfl) (xe_mod (xe_int1 F.n_int (xe_ix (xv 1) (xv 3) (itN k rfl (by omega))) (by constructor)) xe_int (by first | omega | (simp; done) | (simp; omega) | assumption)) (inS (by omega) (by simp; omega) (by simp; omega))), by rfl⟩))) (by first | assumption | rfl) (by first | assumption | (simp; omega) | omega))
/-! ### one sign changed -/
theorem sp__law_changed (F : Wo W) {m : Tx} {n p : Nat} {x : Tx} (hm3 : Mk3 m) (hp : p < n) (hn : n ≤ 30) (hx : OkM m n x) : ∃ y, OkM m n y ∧ RB W N__law_changed (defScope (top 80)) 2 (defBody (top 80)) 3 [.s x, .s m, .i (p : Int)] (.s y) := by
  have h1 := hm3.1
  have hxl := hx.len
  have hmem : at_ x p ∈ [45] ++ m ++ [45] := in_dash2 (hx.at hp)
  have hi : ([45] ++ m ++ [45]).idxOf (at_ x p) < 4 := by
    have hc : at_ x p ∈ [45] ++ m := in_dash (hx.at hp)
    have := List.idxOf_lt_length_of_mem hc
    rw [List.idxOf_append, if_pos hc]
    simp at this ⊢
    omega
  generalize hci : ([45] ++ m ++ [45]).idxOf (at_ x p) = i at hi
  have hc : at_ ([45] ++ m ++ [45]) (i + 1) ∈ [45] ++ m ++ [45] := at_mem (by simp; omega)
  have e1 : ((p : Int) + 1).toNat = p + 1 := by omega
  have e2 : ((p : Int)).toNat = p := by omega
  by_cases hb : setAt x p (at_ ([45] ++ m ++ [45]) (i + 1)) = blank n
  · refine ⟨setAt x p (at_ m 0), ⟨by rw [setAt_len (by omega), hxl], fun c hc => (setAt_mem hc).elim (hx.signs c) fun z => .inr (z ▸ hm3.at (by omega)), setAt_full fun z => hm3.no (z ▸ hm3.at (by omega))⟩, rfl, _, .rt _, ?_⟩
    show XSs (W.ga N__law_changed (defScope (top 80)) 2) (defBody (top 80)) [.v (.s x), .v (.s m), .v (.i (p : Int)), .no, .no, .no] _; refine xss_form ?_
    refine xss_setX 3 pt_ ⟨_, (XE.eq (xe_plus (xe_plus (xe_str (l := [45]) (by decide +kernel)) (xv 1) (AddD.s _ _ (by simp; omega))) (xe_str (l := [45]) (by decide +kernel)) (AddD.s _ _ (by simp; omega))) (d' := .s ([45] ++ m ++ [45])) rfl), ?_⟩
    refine xss_setX 4 pt_ ⟨_, (xe_ix (xv 3) (xe_plus (xe_index (xv 3) (xe_ix (xv 0) (xv 2) (itS p rfl (by omega) (by omega))) (by first | omega | (simp; done) | (simp; omega) | assumption)) xe_int (by first | exact AddD.i _ _ | exact AddD.s _ _ (by first | omega | (simp; done) | (simp; omega) | assumption) | exact AddD.l _ _ (by first | omega | (simp; done) | (simp; omega) | assumption) | exact AddD.t _ _ (by first | omega | (simp; done) | (simp; omega) | assumption))) (itS (i + 1) (by rw [hci]; omega) (by simp; omega) (by simp; omega))), ?_⟩
    refine xss_setX 5 pt_ ⟨_, (xe_plus (xe_plus (XE.eq (xe_slS (xv 0) part_none (part_some (xv 2)) (by omega)) (by rw [cut_to (by omega)])) (xv 4) (by first | exact AddD.i _ _ | exact AddD.s _ _ (by first | omega | (simp; done) | (simp; omega) | assumption) | exact AddD.l _ _ (by first | omega | (simp; done) | (simp; omega) | assumption) | exact AddD.t _ _ (by first | omega | (simp; done) | (simp; omega) | assumption))) (XE.eq (xe_slS (xv 0) (part_some (xe_plus (xv 2) xe_int (by first | exact AddD.i _ _ | exact AddD.s _ _ (by first | omega | (simp; done) | (simp; omega) | assumption) | exact AddD.l _ _ (by first | omega | (simp; done) | (simp; omega) | assumption) | exact AddD.t _ _ (by first | omega | (simp; done) | (simp; omega) | assumption)))) part_none (by omega)) (by rw [cut_from (by omega)])) (by first | exact AddD.i _ _ | exact AddD.s _ _ (by first | omega | (simp; done) | (simp; omega) | assumption) | exact AddD.l _ _ (by first | omega | (simp; done) | (simp; omega) | assumption) | exact AddD.t _ _ (by first | omega | (simp; done) | (simp; omega) | assumption))), ?_⟩
    rw [e1, e2]
    refine xss_ifX ⟨_, (xt_eq (xv 5) (xe_times (xe_str (l := [45]) (by decide +kernel)) (xe_len F.n_len (xv 0) (by first | exact LenD.l _ | exact LenD.t _ | exact LenD.q _ | exact LenD.s _ (by first | omega | (simp; done) | (simp; omega) | assumption))) (by first | exact MulD.i _ _ (by first | exact Or.inl (by omega) | exact Or.inr (by omega) | assumption) | exact MulD.s _ _ _ rfl (by first | omega | (simp; done) | (simp; omega) | assumption) (by first | omega | (simp; done) | (simp; omega) | assumption) | exact MulD.l _ _ _ rfl (by first | omega | (simp; done) | (simp; omega) | assumption) (by first | omega | (simp; done) | (simp; omega) | assumption))) (by constructor)), fun h => ?_, fun h => ?_⟩
    · refine .ret ?_
      refine xss_retX ⟨_, (xe_plus (xe_plus (XE.eq (xe_slS (xv 0) part_none (part_some (xv 2)) (by omega)) (by rw [cut_to (by omega)])) (xe_ix (xv 1) xe_int (by first | exact itWT 0 rfl rfl | exact itW 0 rfl rfl | exact itS 0 rfl (by first | omega | (simp; done) | (simp; omega) | assumption) (by first | omega | (simp; done) | (simp; omega) | assumption) | exact itN 0 rfl (by first | omega | (simp; done) | (simp; omega) | assumption) | exact itI 0 rfl (by first | omega | (simp; done) | (simp; omega) | assumption) | exact itL 0 rfl default (by first | omega | (simp; done) | (simp; omega) | assumption) | exact itT 0 rfl default (by first | omega | (simp; done) | (simp; omega) | assumption))) (by first | exact AddD.i _ _ | exact AddD.s _ _ (by first | omega | (simp; done) | (simp; omega) | assumption) | exact AddD.l _ _ (by first | omega | (simp; done) | (simp; omega) | assumption) | exact AddD.t _ _ (by first | omega | (simp; done) | (simp; omega) | assumption))) (XE.eq (xe_slS (xv 0) (part_some (xe_plus (xv 2) xe_int (by first | exact AddD.i _ _ | exact AddD.s _ _ (by first | omega | (simp; done) | (simp; omega) | assumption) | exact AddD.l _ _ (by first | omega | (simp; done) | (simp; omega) | assumption) | exact AddD.t _ _ (by first | omega | (simp; done) | (simp; omega) | assumption)))) part_none (by omega)) (by rw [cut_from (by omega)])) (by first | exact AddD.i _ _ | exact AddD.s _ _ (by first | omega | (simp; done) | (simp; omega) | assumption) | exact AddD.l _ _ (by first | omega | (simp; done) | (simp; omega) | assumption) | exact AddD.t _ _ (by first | omega | (simp; done) | (simp; omega) | assumption))), ?_⟩
      rw [e1, e2]
      rfl
    · rw [blankS, hxl] at h
      exact absurd hb (of_decide_eq_false h)
  · refine ⟨setAt x p (at_ ([45] ++ m ++ [45]) (i + 1)), ⟨by rw [setAt_len (by omega), hxl], fun c hc' => (setAt_mem hc').elim (hx.signs c) fun z => ?_, hb⟩, rfl, _, .rt _, ?_⟩
    · rw [z]
      simp only [List.mem_append, List.mem_singleton] at hc
      rcases hc with (z | z) | z
      · exact .inl z
      · exact .inr z
      · exact .inl z
    show XSs (W.ga N__law_changed (defScope (top 80)) 2) (defBody (top 80)) [.v (.s x), .v (.s m), .v (.i (p : Int)), .no, .no, .no] _; refine xss_form ?_
    refine xss_setX 3 pt_ ⟨_, (XE.eq (xe_plus (xe_plus (xe_str (l := [45]) (by decide +kernel)) (xv 1) (AddD.s _ _ (by simp; omega))) (xe_str (l := [45]) (by decide +kernel)) (AddD.s _ _ (by simp; omega))) (d' := .s ([45] ++ m ++ [45])) rfl), ?_⟩
    refine xss_setX 4 pt_ ⟨_, (xe_ix (xv 3) (xe_plus (xe_index (xv 3) (xe_ix (xv 0) (xv 2) (itS p rfl (by omega) (by omega))) (by first | omega | (simp; done) | (simp; omega) | assumption)) xe_int (by first | exact AddD.i _ _ | exact AddD.s _ _ (by first | omega | (simp; done) | (simp; omega) | assumption) | exact AddD.l _ _ (by first | omega | (simp; done) | (simp; omega) | assumption) | exact AddD.t _ _ (by first | omega | (simp; done) | (simp; omega) | assumption))) (itS (i + 1) (by rw [hci]; omega) (by simp; omega) (by simp; omega))), ?_⟩
    refine xss_setX 5 pt_ ⟨_, (xe_plus (xe_plus (XE.eq (xe_slS (xv 0) part_none (part_some (xv 2)) (by omega)) (by rw [cut_to (by omega)])) (xv 4) (by first | exact AddD.i _ _ | exact AddD.s _ _ (by first | omega | (simp; done) | (simp; omega) | assumption) | exact AddD.l _ _ (by first | omega | (simp; done) | (simp; omega) | assumption) | exact AddD.t _ _ (by first | omega | (simp; done) | (simp; omega) | assumption))) (XE.eq (xe_slS (xv 0) (part_some (xe_plus (xv 2) xe_int (by first | exact AddD.i _ _ | exact AddD.s _ _ (by first | omega | (simp; done) | (simp; omega) | assumption) | exact AddD.l _ _ (by first | omega | (simp; done) | (simp; omega) | assumption) | exact AddD.t _ _ (by first | omega | (simp; done) | (simp; omega) | assumption)))) part_none (by omega)) (by rw [cut_from (by omega)])) (by first | exact AddD.i _ _ | exact AddD.s _ _ (by first | omega | (simp; done) | (simp; omega) | assumption) | exact AddD.l _ _ (by first | omega | (simp; done) | (simp; omega) | assumption) | exact AddD.t _ _ (by first | omega | (simp; done) | (simp; omega) | assumption))), ?_⟩
    rw [e1, e2]
    refine xss_ifX ⟨_, (xt_eq (xv 5) (xe_times (xe_str (l := [45]) (by decide +kernel)) (xe_len F.n_len (xv 0) (by first | exact LenD.l _ | exact LenD.t _ | exact LenD.q _ | exact LenD.s _ (by first | omega | (simp; done) | (simp; omega) | assumption))) (by first | exact MulD.i _ _ (by first | exact Or.inl (by omega) | exact Or.inr (by omega) | assumption) | exact MulD.s _ _ _ rfl (by first | omega | (simp; done) | (simp; omega) | assumption) (by first | omega | (simp; done) | (simp; omega) | assumption) | exact MulD.l _ _ _ rfl (by first | omega | (simp; done) | (simp; omega) | assumption) (by first | omega | (simp; done) | (simp; omega) | assumption))) (by constructor)), fun h => ?_, fun h => ?_⟩
    · rw [blankS, hxl] at h
      exact absurd (of_decide_eq_true h) hb
    refine .skip ?_
    refine xss_one (xs_ret ?_)
    exact (xv 5)
/-! ### thinned -/
theorem sp__law_thin (F : Wo W) {m : Tx} {n a many : Nat} {x : Tx} (hm3 : Mk3 m) (hn : n ≤ 30) (hx : OkM m n x) (hmy : 1 ≤ many) (hmz : many ≤ 100) : ∃ y, OkM m n y ∧ RB W N__law_thin (defScope (top 81)) 2 (defBody (top 81)) 3 [.s x, .i (a : Int), .i (many : Int)] (.s y) := by
  have hxl := hx.len
  obtain ⟨k0, hk0, hk1⟩ := not_blank hxl hx.full
  have hcl : 0 < (cellsF x).length := List.length_pos_of_mem (a := k0) (by simp only [cellsF, List.mem_filter, List.mem_range]; exact ⟨by omega, by simpa using hk1⟩)
  have hcl2 : (cellsF x).length ≤ n := by unfold cellsF; exact Nat.le_trans (List.length_filter_le _ _) (by simp; omega)
  have hnl : (natsD (cellsF x)).length = (cellsF x).length := by simp [natsD]
  generalize hK : ((List.range many).map fun k : Nat => (cellsF x).getD (((a : Int) + (k : Int)) % ((natsD (cellsF x)).length : Int)).toNat 0) = K
  have hKd : ((List.range many).map fun k : Nat => D.i (((cellsF x).getD (((a : Int) + (k : Int)) % ((natsD (cellsF x)).length : Int)).toNat 0 : Nat) : Int)) = natsD K := by rw [← hK]; simp [natsD]
  have hKm : ∀ k ∈ K, k ∈ cellsF x := fun k hk => by
    rw [← hK] at hk
    obtain ⟨j, hj, rfl⟩ := List.mem_map.mp hk
    refine getD_mem' ?_
    have := Int.emod_lt_of_pos ((a : Int) + (j : Int)) (show (0 : Int) < ((natsD (cellsF x)).length : Int) by omega)
    have h0 := Int.emod_nonneg ((a : Int) + (j : Int)) (show ((natsD (cellsF x)).length : Int) ≠ 0 by omega)
    omega
  have hKne : ∃ k, k ∈ K := by
    rw [← hK]
    exact ⟨_, List.mem_map.mpr ⟨0, List.mem_range.mpr (by omega), rfl⟩⟩
  obtain ⟨k2, hk2⟩ := hKne
  have hk3 := hKm k2 hk2
  simp only [cellsF, List.mem_filter, List.mem_range] at hk3
  have hk4 : at_ x k2 ≠ 45 := by simpa using hk3.2
  refine ⟨tab x.length fun k => if k ∈ K then at_ x k else 45, ⟨by rw [tab_len, hxl], fun c hc => ?_, blank_not (k := k2) (by omega) (by rw [at_tab hk3.1, if_pos hk2]; exact hk4)⟩, rfl, _, .rt _, ?_⟩
  · obtain ⟨k, hk, rfl⟩ := List.mem_map.mp hc
    have hk := List.mem_range.mp hk
    show (if k ∈ K then at_ x k else 45) = 45 ∨ (if k ∈ K then at_ x k else 45) ∈ m
    by_cases c : k ∈ K
    · rw [if_pos c]; exact hx.at (by omega)
    · rw [if_neg c]; exact .inl rfl
  show XSs (W.ga N__law_thin (defScope (top 81)) 2) (defBody (top 81)) [.v (.s x), .v (.i (a : Int)), .v (.i (many : Int)), .no, .no, .no, .no] _; refine xss_form ?_
  refine xss_setX 3 pt_ ⟨_, (xe_lc (own := [("_law_cell_here", 5)]) lc_ (xi_range F.n_range (xe_len F.n_len (xv 0) (by first | exact LenD.l _ | exact LenD.t _ | exact LenD.q _ | exact LenD.s _ (by first | omega | (simp; done) | (simp; omega) | assumption))) (by first | omega | (simp; done) | (simp; omega) | assumption)) (xg1 5 pt_) (by first | (simp [rangeD]; omega) | (simp; omega) | (simp; done)) (comp_filter (g := fun k : Nat => .i (k : Int)) (t := fun k => decide (at_ x k ≠ 45)) (fun k hm => have hk := List.mem_range.mp hm; ⟨_, putn 5, XT.eq (xt_ne (xe_ix (xv 0) (xv 5) (by first | exact it2S | exact itS _ rfl (by first | omega | (simp; done) | (simp; omega) | assumption) (by first | omega | (simp; done) | (simp; omega) | assumption) | exact itN _ rfl (by first | omega | (simp; done) | (simp; omega) | assumption) | exact itI _ rfl (by first | omega | (simp; done) | (simp; omega) | assumption) | exact itL _ rfl default (by first | omega | (simp; done) | (simp; omega) | assumption) | exact itT _ rfl default (by first | omega | (simp; done) | (simp; omega) | assumption))) (xe_str (l := [45]) (by decide +kernel)) (by constructor)) (by simp ), fun hf => ⟨_, (xv 5), by  rfl⟩⟩))), ?_⟩
  have ec : ((List.range x.length).filter fun k => decide (at_ x k ≠ 45)).map (fun k : Nat => D.i (k : Int)) = natsD (cellsF x) := rfl
  rw [ec]
  refine xss_setX 4 pt_ ⟨_, (xe_lc (own := [("_law_k", 6)]) lc_ (xi_range F.n_range (xv 2) (by first | omega | (simp; done) | (simp; omega) | assumption)) (xg1 6 pt_) (by first | (simp [rangeD]; omega) | (simp; omega) | (simp; done)) (comp_map (g := fun k : Nat => .i (((cellsF x).getD (((a : Int) + (k : Int)) % ((natsD (cellsF x)).length : Int)).toNat 0 : Nat) : Int)) (fun k hm => ⟨_, _, putn 6, (xe_ix (xv 3) (xe_mod (xe_int1 F.n_int (xe_plus (xv 1) (xv 6) (by first | exact AddD.i _ _ | exact AddD.s _ _ (by first | omega | (simp; done) | (simp; omega) | assumption) | exact AddD.l _ _ (by first | omega | (simp; done) | (simp; omega) | assumption) | exact AddD.t _ _ (by first | omega | (simp; done) | (simp; omega) | assumption))) (by constructor)) (xe_len F.n_len (xv 3) (by first | exact LenD.l _ | exact LenD.t _ | exact LenD.q _ | exact LenD.s _ (by first | omega | (simp; done) | (simp; omega) | assumption))) (by omega)) (inN (Int.emod_nonneg _ (by omega)) (by have := Int.emod_lt_of_pos ((a : Int) + (k : Int)) (show (0 : Int) < ((natsD (cellsF x)).length : Int) by omega); have h0 := Int.emod_nonneg ((a : Int) + (k : Int)) (show ((natsD (cellsF x)).length : Int) ≠ 0 by omega); omega))), by rfl⟩))), ?_⟩
  rw [hKd]
  have e : ((List.range x.length).map fun k => if k ∈ K then [at_ x k] else [45]).flatten = tab x.length fun k => if k ∈ K then at_ x k else 45 := flat_tabE _ _ _ fun k _ => by split <;> rfl
  have hl : (tab x.length fun k => if k ∈ K then at_ x k else 45).length ≤ 100000 := by rw [tab_len]; omega
  refine xss_one (xs_ret ?_)
  exact (xe_joinE (xe_str (l := []) (by decide +kernel)) (xe_lc (own := [("_law_cell_here", 5)]) lc_ (xi_range F.n_range (xe_len F.n_len (xv 0) (by first | exact LenD.l _ | exact LenD.t _ | exact LenD.q _ | exact LenD.s _ (by first | omega | (simp; done) | (simp; omega) | assumption))) (by first | omega | (simp; done) | (simp; omega) | assumption)) (xg1 5 pt_) (by first | (simp [rangeD]; omega) | (simp; omega) | (simp; done)) (comp_mapS (g := fun k : Nat => if k ∈ K then [at_ x k] else [45]) (fun k hm => have hk := List.mem_range.mp hm; ⟨_, _, putn 5, (xe_ix (xe_lst (xa_cons (xe_str (l := [45]) (by decide +kernel)) (xa_cons (xe_ix (xv 0) (xv 5) (by first | exact it2S | exact itS _ rfl (by first | omega | (simp; done) | (simp; omega) | assumption) (by first | omega | (simp; done) | (simp; omega) | assumption) | exact itN _ rfl (by first | omega | (simp; done) | (simp; omega) | assumption) | exact itI _ rfl (by first | omega | (simp; done) | (simp; omega) | assumption) | exact itL _ rfl default (by first | omega | (simp; done) | (simp; omega) | assumption) | exact itT _ rfl default (by first | omega | (simp; done) | (simp; omega) | assumption))) xa_nil)) (by first | omega | (simp; done) | (simp; omega) | assumption)) (xe_int1 F.n_int (xe_in (xv 5) (xv 4) (insNl k K)) (by constructor)) (by first | exact it2S | exact itS _ rfl (by first | omega | (simp; done) | (simp; omega) | assumption) (by first | omega | (simp; done) | (simp; omega) | assumption) | exact itN _ rfl (by first | omega | (simp; done) | (simp; omega) | assumption) | exact itI _ rfl (by first | omega | (simp; done) | (simp; omega) | assumption) | exact itL _ rfl default (by first | omega | (simp; done) | (simp; omega) | assumption) | exact itT _ rfl default (by first | omega | (simp; done) | (simp; omega) | assumption))), by simp⟩))) (by first | assumption | rfl) (by first | assumption | (simp; omega) | omega))
end
end Q8
namespace Q8
open PySem L2 PyProof.Rows
theorem it2N {a b : Int} {n : Nat} (hn : n < 2) : ItemD (.l [.i a, .i b]) (n : Int) (.i (if n = 0 then a else b)) := by
  match n, hn with
  | 0, _ => exact .l (by simp) rfl
  | 1, _ => exact .l (by simp) rfl
theorem itLx {α : Type} {f : α → D} {xs : List α} {k : Int} (d0 : α) (h0 : 0 ≤ k) (hn : k.toNat < xs.length) : ItemD (.l (xs.map f)) k (f (xs.getD k.toNat d0)) := itL k.toNat (Int.toNat_of_nonneg h0).symm d0 hn
/-- signs right, perhaps blank -/
structure OkB (m : Tx) (n : Nat) (x : Tx) : Prop where
  len : x.length = n
  signs : ∀ c ∈ x, c = 45 ∨ c ∈ m
theorem OkM.b {m : Tx} {n : Nat} {x : Tx} (h : OkM m n x) : OkB m n x := ⟨h.len, h.signs⟩
theorem OkB.at {m : Tx} {n : Nat} {x : Tx} (h : OkB m n x) {k : Nat} (hk : k < n) : at_ x k = 45 ∨ at_ x k ∈ m := h.signs _ (at_mem (by rw [h.len]; exact hk))
theorem okB_blank (m : Tx) (n : Nat) : OkB m n (blank n) := ⟨blank_len n, fun c hc => .inl (blank_mem hc)⟩
theorem press_b {m : Tx} {n : Nat} {x y : Tx} (hx : OkB m n x) (hy : OkM m n y) : OkM m n (pressF x y) := by
  refine ⟨by rw [pressF_len, hx.len], fun c hc => ?_, ?_⟩
  · obtain ⟨k, hk, rfl⟩ := List.mem_map.mp hc
    have hk := List.mem_range.mp hk
    rw [hx.len] at hk
    show (if at_ y k = 45 then at_ x k else at_ y k) = 45 ∨ (if at_ y k = 45 then at_ x k else at_ y k) ∈ m
    by_cases c : at_ y k = 45
    · rw [if_pos c]; exact hx.at hk
    · rw [if_neg c]; exact hy.at hk
  · obtain ⟨k, hk, hk2⟩ := not_blank hy.len hy.full
    refine blank_not hk ?_
    rw [at_press (by rw [hx.len]; exact hk), if_neg hk2]
    exact hk2
section
variable {W : Wd}
theorem sp__law_cellI (F : Wo W) (ns : List Int) (k : Int) (h0 : 0 ≤ k) (hk : k ≤ 1000) : ∃ c : Int, RB W N__law_cell (defScope (top 68)) 2 (defBody (top 68)) 2 [.q ns, .i k] (.i c) := by
  obtain ⟨j, rfl⟩ := Int.eq_ofNat_of_zero_le h0
  exact sp__law_cell F ns j (by omega)
theorem sp__law_nets (F : Wo W) {m : Tx} {n many : Nat} {L : List Tx} (ns : List Int) (A : Int) (hA0 : 0 ≤ A) (hA : A ≤ 900) (hmany : many ≤ 3) (hn : n ≤ 30) (hL : ∀ x ∈ L, OkM m n x) (hfew : L.length ≤ 100) : ∃ N : List Tx, N.length ≤ many ∧ (∀ x ∈ N, OkM m n x) ∧ RB W N__law_nets (defScope (top 79)) 3 (defBody (top 79)) 4 [.q ns, .i A, .l (L.map .s), .i (many : Int)] (.l (N.map .s)) := by
  by_cases hpos : 0 < L.length
  · have hfirst : (L.getD 0 []).length = n := (hL _ (getD_mem' hpos)).len
    obtain ⟨N, ⟨hN1, hN2⟩, hloop⟩ := loop_ex (Γ := W.ga N__law_nets (defScope (top 79)) 3) (S := List Tx) (put := putN 5) (body := whB (stAt (defBody (top 79)) 2)) (f := fun k : Nat => .i (k : Int)) (E := fun s => [.v (.q ns), .v (.i A), .v (.l (L.map .s)), .v (.i (many : Int)), .ol (s.map .s), .no, .no, .no, .no, .no]) (fun i s => s.length ≤ i ∧ ∀ x ∈ s, OkM m n x) (l := List.range many) 0 [] (fun i s k hk hs => by
        rw [Nat.zero_add] at hs ⊢
        obtain ⟨hs1, hs2⟩ := hs
        have hkm : k < many := List.mem_range.mp (List.mem_of_getElem? hk)
        have him : i < many := by simpa using (List.getElem?_eq_some_iff.mp hk).1
        obtain ⟨c, hc⟩ := sp__law_cellI F ns (A + (k : Int)) (by omega) (by omega)
        obtain ⟨l, hl, hd⟩ := sp__law_digits F c (sizes := [4, 2, 60, 60, 60, 60, 60]) (by decide) (by decide)
        have hlen : l.length = 7 := hl.len
        have hl0 : l.getD 0 0 < 4 := hl.lt 0 (by decide)
        have hl1 : l.getD 1 0 < 2 := hl.lt 1 (by decide)
        obtain ⟨now, ⟨hw1, hw2⟩, hinner⟩ := loop_ex (Γ := W.ga N__law_nets (defScope (top 79)) 3) (S := Tx) (put := putN 8) (body := whB (stAt (whB (stAt (defBody (top 79)) 2)) 2)) (f := fun k : Nat => .i (k : Int)) (E := fun y => [.v (.q ns), .v (.i A), .v (.l (L.map .s)), .v (.i (many : Int)), .ol (s.map .s), .v (.i (k : Int)), .v (.l (natsD l)), .v (.s y), .no, .no]) (fun j y => OkB m n y ∧ (1 ≤ j → OkM m n y)) (l := List.range (2 + l.getD 0 0)) 0 (blank n) (fun j y t ht hs => by
            rw [Nat.zero_add] at hs ⊢
            have htm : t < 2 + l.getD 0 0 := List.mem_range.mp (List.mem_of_getElem? ht)
            have hml : (L.map D.s).length = L.length := by simp
            have hmod0 : 0 ≤ (if l.getD 1 0 = 0 then ((l.getD 2 0 : Nat) : Int) + (t : Int) else ((l.getD (2 + t) 0 : Nat) : Int)) % ((L.map D.s).length : Int) := Int.emod_nonneg _ (by omega)
            have hmod1 : (if l.getD 1 0 = 0 then ((l.getD 2 0 : Nat) : Int) + (t : Int) else ((l.getD (2 + t) 0 : Nat) : Int)) % ((L.map D.s).length : Int) < ((L.map D.s).length : Int) := Int.emod_lt_of_pos _ (by omega)
            have hidx : ((if l.getD 1 0 = 0 then ((l.getD 2 0 : Nat) : Int) + (t : Int) else ((l.getD (2 + t) 0 : Nat) : Int)) % ((L.map D.s).length : Int)).toNat < L.length := by omega
            have hok := press_b hs.1 (hL _ (getD_mem' (d := []) hidx))
            refine ⟨_, _, [.v (.q ns), .v (.i A), .v (.l (L.map .s)), .v (.i (many : Int)), .ol (s.map .s), .v (.i (k : Int)), .v (.l (natsD l)), .v (.s (pressF y (L.getD ((if l.getD 1 0 = 0 then ((l.getD 2 0 : Nat) : Int) + (t : Int) else ((l.getD (2 + t) 0 : Nat) : Int)) % ((L.map D.s).length : Int)).toNat []))), .v (.i (t : Int)), .v (.i (if l.getD 1 0 = 0 then ((l.getD 2 0 : Nat) : Int) + (t : Int) else ((l.getD (2 + t) 0 : Nat) : Int)))], ⟨hok.b, fun _ => hok⟩, putn 8, ?_, by repeat (first | exact Wk.nil | refine Wk.same ?_ | refine Wk.drop ?_ | refine Wk.shl ?_ | refine Wk.shk ?_)⟩
            refine xss_form ?_
            refine xss_setX 9 pt_ ⟨_, (xe_ix (xe_lst (xa_cons (xe_plus (xe_ix (xv 6) xe_int (by first | exact itWT 2 rfl rfl | exact itW 2 rfl rfl | exact itS 2 rfl (by first | omega | (simp; done) | (simp; omega) | assumption) (by first | omega | (simp; done) | (simp; omega) | assumption) | exact itN 2 rfl (by first | omega | (simp; done) | (simp; omega) | assumption) | exact itI 2 rfl (by first | omega | (simp; done) | (simp; omega) | assumption) | exact itL 2 rfl default (by first | omega | (simp; done) | (simp; omega) | assumption) | exact itT 2 rfl default (by first | omega | (simp; done) | (simp; omega) | assumption))) (xv 8) (by first | exact AddD.i _ _ | exact AddD.s _ _ (by first | omega | (simp; done) | (simp; omega) | assumption) | exact AddD.l _ _ (by first | omega | (simp; done) | (simp; omega) | assumption) | exact AddD.t _ _ (by first | omega | (simp; done) | (simp; omega) | assumption))) (xa_cons (xe_ix (xv 6) (xe_plus xe_int (xv 8) (by first | exact AddD.i _ _ | exact AddD.s _ _ (by first | omega | (simp; done) | (simp; omega) | assumption) | exact AddD.l _ _ (by first | omega | (simp; done) | (simp; omega) | assumption) | exact AddD.t _ _ (by first | omega | (simp; done) | (simp; omega) | assumption))) (itN (2 + t) (by omega) (by omega))) xa_nil)) (by first | omega | (simp; done) | (simp; omega) | assumption)) (xe_ix (xv 6) xe_int (by first | exact itWT 1 rfl rfl | exact itW 1 rfl rfl | exact itS 1 rfl (by first | omega | (simp; done) | (simp; omega) | assumption) (by first | omega | (simp; done) | (simp; omega) | assumption) | exact itN 1 rfl (by first | omega | (simp; done) | (simp; omega) | assumption) | exact itI 1 rfl (by first | omega | (simp; done) | (simp; omega) | assumption) | exact itL 1 rfl default (by first | omega | (simp; done) | (simp; omega) | assumption) | exact itT 1 rfl default (by first | omega | (simp; done) | (simp; omega) | assumption))) (it2N hl1)), ?_⟩
            refine xss_setX 7 pt_ ⟨_, (xe_call F.kn__law_press (by dsimp only [Wd.ga, Ga.blk]; decide) (xa_cons (xv 7) (xa_cons (xe_ix (xv 2) (xe_mod (xe_int1 F.n_int (xv 9) (by constructor)) (xe_len F.n_len (xv 2) (by first | exact LenD.l _ | exact LenD.t _ | exact LenD.q _ | exact LenD.s _ (by first | omega | (simp; done) | (simp; omega) | assumption))) (by simp; omega)) (itLx (f := D.s) [] (by omega) hidx)) xa_nil)) (sp__law_press F (by rw [hs.1.len]; omega) (by rw [hs.1.len]; exact (hL _ (getD_mem' hidx)).len))), ?_⟩
            exact xss_nil) ⟨okB_blank m n, fun h => absurd h (by omega)⟩
        rw [Nat.zero_add, List.length_range] at hw2
        have hnow := hw2 (by omega)
        refine ⟨s ++ [now], _, [.v (.q ns), .v (.i A), .v (.l (L.map .s)), .v (.i (many : Int)), .ol ((s ++ [now]).map .s), .v (.i (k : Int)), .v (.l (natsD l)), .v (.s now), .no, .no], ⟨by simp; omega, fun x hx => ?_⟩, putn 5, ?_, by repeat (first | exact Wk.nil | refine Wk.same ?_ | refine Wk.drop ?_ | refine Wk.shl ?_ | refine Wk.shk ?_)⟩
        · rcases List.mem_append.mp hx with z | z
          · exact hs2 x z
          · rw [List.mem_singleton.mp z]; exact hnow
        refine xss_form ?_
        refine xss_setX 6 pt_ ⟨_, (xe_call F.kn__law_digits (by dsimp only [Wd.ga, Ga.blk]; decide) (xa_cons (xe_call F.kn__law_cell (by dsimp only [Wd.ga, Ga.blk]; decide) (xa_cons (xv 0) (xa_cons (xe_plus (xv 1) (xv 5) (by first | exact AddD.i _ _ | exact AddD.s _ _ (by first | omega | (simp; done) | (simp; omega) | assumption) | exact AddD.l _ _ (by first | omega | (simp; done) | (simp; omega) | assumption) | exact AddD.t _ _ (by first | omega | (simp; done) | (simp; omega) | assumption))) xa_nil)) (hc)) (xa_cons (XE.eq (xe_plus (xe_lst (xa_cons xe_int (xa_cons xe_int xa_nil)) (by first | omega | (simp; done) | (simp; omega) | assumption)) (xe_times (xe_lst (xa_cons xe_int xa_nil) (by first | omega | (simp; done) | (simp; omega) | assumption)) xe_int (by first | exact MulD.i _ _ (by first | exact Or.inl (by omega) | exact Or.inr (by omega) | assumption) | exact MulD.s _ _ _ rfl (by first | omega | (simp; done) | (simp; omega) | assumption) (by first | omega | (simp; done) | (simp; omega) | assumption) | exact MulD.l _ _ _ rfl (by first | omega | (simp; done) | (simp; omega) | assumption) (by first | omega | (simp; done) | (simp; omega) | assumption))) (by first | exact AddD.i _ _ | exact AddD.s _ _ (by first | omega | (simp; done) | (simp; omega) | assumption) | exact AddD.l _ _ (by first | omega | (simp; done) | (simp; omega) | assumption) | exact AddD.t _ _ (by first | omega | (simp; done) | (simp; omega) | assumption))) (d' := .l (natsD [4, 2, 60, 60, 60, 60, 60])) rfl) xa_nil)) (hd)), ?_⟩
        refine xss_setX 7 pt_ ⟨_, (xe_times (xe_str (l := [45]) (by decide +kernel)) (xe_len F.n_len (xe_ix (xv 2) xe_int (itL (f := D.s) 0 rfl [] hpos)) (by first | exact LenD.l _ | exact LenD.t _ | exact LenD.q _ | exact LenD.s _ (by first | omega | (simp; done) | (simp; omega) | assumption))) (by first | exact MulD.i _ _ (by first | exact Or.inl (by omega) | exact Or.inr (by omega) | assumption) | exact MulD.s _ _ _ rfl (by first | omega | (simp; done) | (simp; omega) | assumption) (by first | omega | (simp; done) | (simp; omega) | assumption) | exact MulD.l _ _ _ rfl (by first | omega | (simp; done) | (simp; omega) | assumption) (by first | omega | (simp; done) | (simp; omega) | assumption))), ?_⟩
        rw [blankS, hfirst]
        refine xss_for (xi_range (n := 2 + l.getD 0 0) F.n_range (XE.eq (xe_plus xe_int (xe_ix (xv 6) xe_int (by first | exact itWT 0 rfl rfl | exact itW 0 rfl rfl | exact itS 0 rfl (by first | omega | (simp; done) | (simp; omega) | assumption) (by first | omega | (simp; done) | (simp; omega) | assumption) | exact itN 0 rfl (by first | omega | (simp; done) | (simp; omega) | assumption) | exact itI 0 rfl (by first | omega | (simp; done) | (simp; omega) | assumption) | exact itL 0 rfl default (by first | omega | (simp; done) | (simp; omega) | assumption) | exact itT 0 rfl default (by first | omega | (simp; done) | (simp; omega) | assumption))) (by first | exact AddD.i _ _ | exact AddD.s _ _ (by first | omega | (simp; done) | (simp; omega) | assumption) | exact AddD.l _ _ (by first | omega | (simp; done) | (simp; omega) | assumption) | exact AddD.t _ _ (by first | omega | (simp; done) | (simp; omega) | assumption))) (by simp)) (by omega)) (xg1 8 pt_) (.inl ⟨_, hinner, ?_⟩)
        have hol : (s.map D.s).length < 16777216 := by simp; omega
        refine xss_cons (xs_append 4 (xv 7) rfl rfl (by first | exact Or.inl rfl | exact Or.inr (Or.inl rfl)) hol (by decide +kernel) (by decide +kernel)) ?_
        simp only [List.set_cons_zero, List.set_cons_succ, List.map_append, List.map_cons, List.map_nil]
        exact xss_nil) ⟨by simp, by simp⟩
    rw [Nat.zero_add, List.length_range] at hN1
    refine ⟨N, hN1, hN2, rfl, _, .rt _, ?_⟩
    show XSs (W.ga N__law_nets (defScope (top 79)) 3) (defBody (top 79)) [.v (.q ns), .v (.i A), .v (.l (L.map .s)), .v (.i (many : Int)), .no, .no, .no, .no, .no, .no] _; refine xss_form ?_
    refine xss_cons (xs_setN 4 (xn_lst xa_nil) pt_ (by simp)) ?_
    refine xss_ifX ⟨false, XT.eq (xt_eq (xe_len F.n_len (xv 2) (by first | exact LenD.l _ | exact LenD.t _ | exact LenD.q _ | exact LenD.s _ (by first | omega | (simp; done) | (simp; omega) | assumption))) xe_int (by constructor)) (by exact decide_eq_false (by rw [List.length_map]; omega)), fun h => ?_, fun h => ?_⟩
    · cases h
    refine .skip ?_
    refine xss_for (xi_range F.n_range (xv 3) (by first | omega | (simp; done) | (simp; omega) | assumption)) (xg1 5 pt_) (.inl ⟨_, hloop, ?_⟩)
    refine XSs.weakL (env' := [.v (.q ns), .v (.i A), .v (.l (L.map .s)), .v (.i (many : Int)), .v (.l (N.map .s)), .no, .no, .no, .no, .no]) ?_ (by repeat (first | exact Wk.nil | refine Wk.same ?_ | refine Wk.drop ?_ | refine Wk.shl ?_ | refine Wk.shk ?_))
    refine xss_one (xs_ret ?_)
    exact (xv 4)
  · have hnil : L = [] := List.eq_nil_of_length_eq_zero (by omega)
    subst hnil
    refine ⟨[], by simp, by simp, rfl, _, .rt _, ?_⟩
    show XSs (W.ga N__law_nets (defScope (top 79)) 3) (defBody (top 79)) [.v (.q ns), .v (.i A), .v (.l []), .v (.i (many : Int)), .no, .no, .no, .no, .no, .no] _; refine xss_form ?_
    refine xss_cons (xs_setN 4 (xn_lst xa_nil) pt_ (by simp)) ?_
    refine xss_ifX ⟨true, XT.eq (xt_eq (xe_len F.n_len (xv 2) (by first | exact LenD.l _ | exact LenD.t _ | exact LenD.q _ | exact LenD.s _ (by first | omega | (simp; done) | (simp; omega) | assumption))) xe_int (by constructor)) (by rfl), fun h => ?_, fun h => ?_⟩
    · refine .lv ?_ (.rt _)
      refine XSs.weakL (env' := [.v (.q ns), .v (.i A), .v (.l []), .v (.i (many : Int)), .v (.l []), .no, .no, .no, .no, .no]) ?_ (by repeat (first | exact Wk.nil | refine Wk.same ?_ | refine Wk.drop ?_ | refine Wk.shl ?_ | refine Wk.shk ?_))
      refine xss_form ?_
      refine xss_one (xs_ret ?_)
      exact (xv 4)
    · cases h
end
end Q8
namespace Q8
open PySem L2 PyProof.Rows
def sgD (y : Tx) : List D := y.map fun c => .s [c]
theorem sgD_eq (y : Tx) : sgD y = (y.map fun c => [c]).map .s := by simp [sgD]
theorem sgD_blank (n : Nat) : (List.replicate n [D.s [45]]).flatten = sgD (blank n) := by simp [sgD, blank]
theorem sgD_set (y : Tx) (p c : Nat) : (sgD y).set p (.s [c]) = sgD (y.set p c) := by simp [sgD, List.map_set]
theorem set_b {m : Tx} {n p c : Nat} {y : Tx} (hy : OkB m n y) (hc : c = 45 ∨ c ∈ m) : OkB m n (y.set p c) := by
  refine ⟨by rw [List.length_set, hy.len], fun d hd => ?_⟩
  rcases List.mem_or_eq_of_mem_set hd with h | h
  · exact hy.signs d h
  · exact h ▸ hc
def sixT (m : Tx) : Tx := [45, 45] ++ (List.replicate 3 [at_ m 0]).flatten ++ [at_ m 1]
theorem six_mem {m : Tx} (hm : Mk3 m) : ∀ c ∈ sixT m, c = 45 ∨ c ∈ m := by
  intro c hc
  have a0 : at_ m 0 ∈ m := hm.at (by omega)
  have a1 : at_ m 1 ∈ m := hm.at (by omega)
  generalize h0 : at_ m 0 = a at a0
  generalize h1 : at_ m 1 = b at a1
  unfold sixT at hc
  rw [h0, h1] at hc
  have e : [45, 45] ++ (List.replicate 3 [a]).flatten ++ [b] = [45, 45, a, a, a, b] := rfl
  rw [e] at hc
  simp only [List.mem_cons, List.not_mem_nil, or_false] at hc
  rcases hc with rfl | rfl | rfl | rfl | rfl | rfl
  · exact .inl rfl
  · exact .inl rfl
  · exact .inr a0
  · exact .inr a0
  · exact .inr a0
  · exact .inr a1
section
variable {W : Wd}
theorem sp__law_crowd (F : Wo W) {m : Tx} {n many : Nat} (ns : List Int) (A : Int) (hA0 : 0 ≤ A) (hA : A ≤ 900) (hmany : many ≤ 20) (hm3 : Mk3 m) (hn0 : 1 ≤ n) (hn : n ≤ 30) : ∃ N : List Tx, N.length = many ∧ (∀ x ∈ N, OkM m n x) ∧ RB W N__law_crowd (defScope (top 83)) 3 (defBody (top 83)) 5 [.q ns, .i A, .i (many : Int), .i (n : Int), .s m] (.l (N.map .s)) := by
  have hml := hm3.1
  have h6 : (sixT m).length = 6 := rfl
  obtain ⟨N, ⟨hN1, hN2⟩, hloop⟩ := loop_ex (Γ := W.ga N__law_crowd (defScope (top 83)) 3) (S := List Tx) (put := putN 6) (body := whB (stAt (defBody (top 83)) 1)) (f := fun k : Nat => .i (k : Int)) (E := fun s => [.v (.q ns), .v (.i A), .v (.i (many : Int)), .v (.i (n : Int)), .v (.s m), .ol (s.map .s), .no, .no, .no, .no, .no]) (fun i s => s.length = i ∧ ∀ x ∈ s, OkM m n x) (l := List.range many) 0 [] (fun i s k hk hs => by
      rw [Nat.zero_add] at hs ⊢
      obtain ⟨hs1, hs2⟩ := hs
      have hkm : k < many := List.mem_range.mp (List.mem_of_getElem? hk)
      have him : i < many := by simpa using (List.getElem?_eq_some_iff.mp hk).1
      obtain ⟨c, hc⟩ := sp__law_cellI F ns (A + (k : Int)) (by omega) (by omega)
      obtain ⟨l, hl, hd⟩ := sp__law_digits F c (sizes := [30, 3, 6, 6, 6, 6, 6, 6]) (by decide) (by decide)
      have hlen : l.length = 8 := hl.len
      have hl6 : ∀ t, t < 6 → l.getD (2 + t) 0 < 6 := fun t ht => by
        have := hl.lt (2 + t) (by simp; omega)
        have e : [30, 3, 6, 6, 6, 6, 6, 6].getD (2 + t) 0 = 6 := by
          match t, ht with
          | 0, _ => rfl
          | 1, _ => rfl
          | 2, _ => rfl
          | 3, _ => rfl
          | 4, _ => rfl
          | 5, _ => rfl
        rwa [e] at this
      obtain ⟨y, hy, hinner⟩ := loop_ex (Γ := W.ga N__law_crowd (defScope (top 83)) 3) (S := Tx) (put := putN 9) (body := whB (stAt (whB (stAt (defBody (top 83)) 1)) 2)) (f := fun k : Nat => .i (k : Int)) (E := fun y => [.v (.q ns), .v (.i A), .v (.i (many : Int)), .v (.i (n : Int)), .v (.s m), .ol (s.map .s), .v (.i (k : Int)), .v (.l (natsD l)), .ol (sgD y), .no, .no]) (fun j y => OkB m n y) (l := List.range 6) 0 (blank n) (fun j y t ht hs => by
          have ht6 : t < 6 := List.mem_range.mp (List.mem_of_getElem? ht)
          have hlt := hl6 t ht6
          have hp0 : 0 ≤ (((l.getD 0 0 : Nat) : Int) + (t : Int) * (1 + ((l.getD 1 0 : Nat) : Int))) % (n : Int) := Int.emod_nonneg _ (by omega)
          have hp1 : (((l.getD 0 0 : Nat) : Int) + (t : Int) * (1 + ((l.getD 1 0 : Nat) : Int))) % (n : Int) < (n : Int) := Int.emod_lt_of_pos _ (by omega)
          have hyl := hs.len
          have hsl : (sgD y).length = n := by simp [sgD, hyl]
          refine ⟨y.set ((((l.getD 0 0 : Nat) : Int) + (t : Int) * (1 + ((l.getD 1 0 : Nat) : Int))) % (n : Int)).toNat (at_ (sixT m) (l.getD (2 + t) 0)), _, [.v (.q ns), .v (.i A), .v (.i (many : Int)), .v (.i (n : Int)), .v (.s m), .ol (s.map .s), .v (.i (k : Int)), .v (.l (natsD l)), .ol (sgD (y.set ((((l.getD 0 0 : Nat) : Int) + (t : Int) * (1 + ((l.getD 1 0 : Nat) : Int))) % (n : Int)).toNat (at_ (sixT m) (l.getD (2 + t) 0)))), .v (.i (t : Int)), .v (.i ((((l.getD 0 0 : Nat) : Int) + (t : Int) * (1 + ((l.getD 1 0 : Nat) : Int))) % (n : Int)))], set_b hs (six_mem hm3 _ (at_mem (by rw [h6]; exact hlt))), putn 9, ?_, by repeat (first | exact Wk.nil | refine Wk.same ?_ | refine Wk.drop ?_ | refine Wk.shl ?_ | refine Wk.shk ?_)⟩
          refine xss_form ?_
          refine xss_setX 10 pt_ ⟨_, (xe_mod (xe_int1 F.n_int (xe_plus (xe_ix (xv 7) xe_int (by first | exact itWT 0 rfl rfl | exact itW 0 rfl rfl | exact itS 0 rfl (by first | omega | (simp; done) | (simp; omega) | assumption) (by first | omega | (simp; done) | (simp; omega) | assumption) | exact itN 0 rfl (by first | omega | (simp; done) | (simp; omega) | assumption) | exact itI 0 rfl (by first | omega | (simp; done) | (simp; omega) | assumption) | exact itL 0 rfl default (by first | omega | (simp; done) | (simp; omega) | assumption) | exact itT 0 rfl default (by first | omega | (simp; done) | (simp; omega) | assumption))) (xe_times (xv 9) (xe_plus xe_int (xe_ix (xv 7) xe_int (by first | exact itWT 1 rfl rfl | exact itW 1 rfl rfl | exact itS 1 rfl (by first | omega | (simp; done) | (simp; omega) | assumption) (by first | omega | (simp; done) | (simp; omega) | assumption) | exact itN 1 rfl (by first | omega | (simp; done) | (simp; omega) | assumption) | exact itI 1 rfl (by first | omega | (simp; done) | (simp; omega) | assumption) | exact itL 1 rfl default (by first | omega | (simp; done) | (simp; omega) | assumption) | exact itT 1 rfl default (by first | omega | (simp; done) | (simp; omega) | assumption))) (by first | exact AddD.i _ _ | exact AddD.s _ _ (by first | omega | (simp; done) | (simp; omega) | assumption) | exact AddD.l _ _ (by first | omega | (simp; done) | (simp; omega) | assumption) | exact AddD.t _ _ (by first | omega | (simp; done) | (simp; omega) | assumption))) (by first | exact MulD.i _ _ (by first | exact Or.inl (by omega) | exact Or.inr (by omega) | assumption) | exact MulD.s _ _ _ rfl (by first | omega | (simp; done) | (simp; omega) | assumption) (by first | omega | (simp; done) | (simp; omega) | assumption) | exact MulD.l _ _ _ rfl (by first | omega | (simp; done) | (simp; omega) | assumption) (by first | omega | (simp; done) | (simp; omega) | assumption))) (by first | exact AddD.i _ _ | exact AddD.s _ _ (by first | omega | (simp; done) | (simp; omega) | assumption) | exact AddD.l _ _ (by first | omega | (simp; done) | (simp; omega) | assumption) | exact AddD.t _ _ (by first | omega | (simp; done) | (simp; omega) | assumption))) (by constructor)) (xv 3) (by omega)), ?_⟩
          refine xss_cons (xs_setL 8 (xe_ix (XE.eq (xe_plus (xe_plus (xe_str (l := [45, 45]) (by decide +kernel)) (xe_times (xe_ix (xv 4) xe_int (itS 0 rfl (by omega) (by omega))) xe_int (MulD.s _ _ 3 rfl (by simp) (by omega))) (AddD.s _ _ (by simp))) (xe_ix (xv 4) xe_int (itS 1 rfl (by omega) (by omega))) (AddD.s _ _ (by simp))) (d' := .s (sixT m)) rfl) (xe_ix (xv 7) (xe_plus xe_int (xv 9) (by first | exact AddD.i _ _ | exact AddD.s _ _ (by first | omega | (simp; done) | (simp; omega) | assumption) | exact AddD.l _ _ (by first | omega | (simp; done) | (simp; omega) | assumption) | exact AddD.t _ _ (by first | omega | (simp; done) | (simp; omega) | assumption))) (itN (2 + t) (by omega) (by omega))) (itS _ rfl (by rw [h6]; omega) (by rw [h6]; omega))) (xv 10) rfl rfl (by first | exact Or.inl rfl | exact Or.inr (Or.inl rfl)) hp0 (by rw [hsl]; exact hp1) (by decide +kernel) (by decide +kernel)) ?_
          rw [sgD_set]
          exact xss_nil) (okB_blank m n)
      have hyl := hy.len
      have start : ∀ {out : Out}, XSs (W.ga N__law_crowd (defScope (top 83)) 3) ((whB (stAt (defBody (top 83)) 1)).drop 3) [.v (.q ns), .v (.i A), .v (.i (many : Int)), .v (.i (n : Int)), .v (.s m), .ol (s.map .s), .v (.i (k : Int)), .v (.l (natsD l)), .ol (sgD y), .no, .no] out → XSs (W.ga N__law_crowd (defScope (top 83)) 3) (whB (stAt (defBody (top 83)) 1)) [.v (.q ns), .v (.i A), .v (.i (many : Int)), .v (.i (n : Int)), .v (.s m), .ol (s.map .s), .v (.i (k : Int)), .no, .no, .no, .no] out := fun {out} hh => by
        refine xss_form ?_
        refine xss_setX 7 pt_ ⟨_, (xe_call F.kn__law_digits (by dsimp only [Wd.ga, Ga.blk]; decide) (xa_cons (xe_call F.kn__law_cell (by dsimp only [Wd.ga, Ga.blk]; decide) (xa_cons (xv 0) (xa_cons (xe_plus (xv 1) (xv 6) (by first | exact AddD.i _ _ | exact AddD.s _ _ (by first | omega | (simp; done) | (simp; omega) | assumption) | exact AddD.l _ _ (by first | omega | (simp; done) | (simp; omega) | assumption) | exact AddD.t _ _ (by first | omega | (simp; done) | (simp; omega) | assumption))) xa_nil)) (hc)) (xa_cons (XE.eq (xe_plus (xe_lst (xa_cons xe_int (xa_cons xe_int xa_nil)) (by first | omega | (simp; done) | (simp; omega) | assumption)) (xe_times (xe_lst (xa_cons xe_int xa_nil) (by first | omega | (simp; done) | (simp; omega) | assumption)) xe_int (by first | exact MulD.i _ _ (by first | exact Or.inl (by omega) | exact Or.inr (by omega) | assumption) | exact MulD.s _ _ _ rfl (by first | omega | (simp; done) | (simp; omega) | assumption) (by first | omega | (simp; done) | (simp; omega) | assumption) | exact MulD.l _ _ _ rfl (by first | omega | (simp; done) | (simp; omega) | assumption) (by first | omega | (simp; done) | (simp; omega) | assumption))) (by first | exact AddD.i _ _ | exact AddD.s _ _ (by first | omega | (simp; done) | (simp; omega) | assumption) | exact AddD.l _ _ (by first | omega | (simp; done) | (simp; omega) | assumption) | exact AddD.t _ _ (by first | omega | (simp; done) | (simp; omega) | assumption))) (d' := .l (natsD [30, 3, 6, 6, 6, 6, 6, 6])) rfl) xa_nil)) (hd)), ?_⟩
        refine xss_cons (xs_setN 8 (xn_mulL (n := n) (xe_lst (xa_cons (xe_str (l := [45]) (by decide +kernel)) xa_nil) (by simp)) (xv 3) (by simp; omega) (by omega)) pt_ (by simp)) ?_
        rw [sgD_blank]
        exact xss_for (xi_range (n := 6) F.n_range xe_int (by omega)) (xg1 9 pt_) (.inl ⟨_, hinner, hh⟩)
      have hol : (s.map D.s).length < 16777216 := by simp; omega
      have hsl : (sgD y).length = n := by simp [sgD, hyl]
      have fin : ∀ yy, OkM m n yy → ∃ (s' : List Tx) (e2 : List Sl), (s'.length = i + 1 ∧ ∀ x ∈ s', OkM m n x) ∧ XSs (W.ga N__law_crowd (defScope (top 83)) 3) ((whB (stAt (defBody (top 83)) 1)).drop 4) [.v (.q ns), .v (.i A), .v (.i (many : Int)), .v (.i (n : Int)), .v (.s m), .ol (s.map .s), .v (.i (k : Int)), .v (.l (natsD l)), .ol (sgD yy), .no, .no] (.nx e2) ∧ Wk e2 [.v (.q ns), .v (.i A), .v (.i (many : Int)), .v (.i (n : Int)), .v (.s m), .ol (s'.map .s), .no, .no, .no, .no, .no] := fun yy hyy => by
        have hyyl := hyy.len
        refine ⟨s ++ [yy], [.v (.q ns), .v (.i A), .v (.i (many : Int)), .v (.i (n : Int)), .v (.s m), .ol ((s ++ [yy]).map .s), .v (.i (k : Int)), .v (.l (natsD l)), .ol (sgD yy), .no, .no], ⟨by simp [hs1], fun x hx => ?_⟩, ?_, by repeat (first | exact Wk.nil | refine Wk.same ?_ | refine Wk.drop ?_ | refine Wk.shl ?_ | refine Wk.shk ?_)⟩
        · rcases List.mem_append.mp hx with z | z
          · exact hs2 x z
          · rw [List.mem_singleton.mp z]; exact hyy
        refine xss_form ?_
        refine xss_cons (xs_append 5 (xe_view 8 rfl rfl (xe_joinE (xe_str (l := []) (by decide +kernel)) (XE.eq (xv 8) (by rw [sgD_eq])) (flat_ones _) (by omega)) rfl) rfl rfl (by first | exact Or.inl rfl | exact Or.inr (Or.inl rfl)) hol (by decide +kernel) (by decide +kernel)) ?_
        simp only [List.set_cons_zero, List.set_cons_succ, List.map_append, List.map_cons, List.map_nil]
        exact xss_nil
      by_cases hb : y = blank n
      · have hq0 : 0 ≤ ((l.getD 0 0 : Nat) : Int) % (n : Int) := Int.emod_nonneg _ (by omega)
        have hq1 : ((l.getD 0 0 : Nat) : Int) % (n : Int) < (n : Int) := Int.emod_lt_of_pos _ (by omega)
        have hok : OkM m n (y.set (((l.getD 0 0 : Nat) : Int) % (n : Int)).toNat (at_ m 0)) := by
          have hbb := set_b (p := (((l.getD 0 0 : Nat) : Int) % (n : Int)).toNat) hy (.inr (hm3.at (k := 0) (by omega)))
          refine ⟨hbb.len, hbb.signs, blank_not (k := (((l.getD 0 0 : Nat) : Int) % (n : Int)).toNat) (by omega) ?_⟩
          have e : at_ (y.set (((l.getD 0 0 : Nat) : Int) % (n : Int)).toNat (at_ m 0)) (((l.getD 0 0 : Nat) : Int) % (n : Int)).toNat = at_ m 0 := by
            show (y.set _ (at_ m 0)).getD _ 0 = at_ m 0
            rw [List.getD_eq_getElem?_getD, List.getElem?_set_self (by omega)]; rfl
          rw [e]
          exact fun z => hm3.no (z ▸ hm3.at (k := 0) (by omega))
        obtain ⟨s', e2, z1, z2, z3⟩ := fin _ hok
        refine ⟨s', _, e2, z1, putn 6, start ?_, z3⟩
        refine xss_form ?_
        refine xss_ifX ⟨_, (xt_eq (xe_view 8 rfl rfl (xe_joinE (xe_str (l := []) (by decide +kernel)) (XE.eq (xv 8) (by rw [sgD_eq])) (flat_ones _) (by omega)) rfl) (xe_times (xe_str (l := [45]) (by decide +kernel)) (xv 3) (by first | exact MulD.i _ _ (by first | exact Or.inl (by omega) | exact Or.inr (by omega) | assumption) | exact MulD.s _ _ _ rfl (by first | omega | (simp; done) | (simp; omega) | assumption) (by first | omega | (simp; done) | (simp; omega) | assumption) | exact MulD.l _ _ _ rfl (by first | omega | (simp; done) | (simp; omega) | assumption) (by first | omega | (simp; done) | (simp; omega) | assumption))) (by constructor)), fun h => ?_, fun h => ?_⟩
        · refine .nx (xss_form ?_) z2
          refine xss_cons (xs_setL 8 (xe_ix (xv 4) xe_int (by first | exact itWT 0 rfl rfl | exact itW 0 rfl rfl | exact itS 0 rfl (by first | omega | (simp; done) | (simp; omega) | assumption) (by first | omega | (simp; done) | (simp; omega) | assumption) | exact itN 0 rfl (by first | omega | (simp; done) | (simp; omega) | assumption) | exact itI 0 rfl (by first | omega | (simp; done) | (simp; omega) | assumption) | exact itL 0 rfl default (by first | omega | (simp; done) | (simp; omega) | assumption) | exact itT 0 rfl default (by first | omega | (simp; done) | (simp; omega) | assumption))) (xe_mod (xe_int1 F.n_int (xe_ix (xv 7) xe_int (by first | exact itWT 0 rfl rfl | exact itW 0 rfl rfl | exact itS 0 rfl (by first | omega | (simp; done) | (simp; omega) | assumption) (by first | omega | (simp; done) | (simp; omega) | assumption) | exact itN 0 rfl (by first | omega | (simp; done) | (simp; omega) | assumption) | exact itI 0 rfl (by first | omega | (simp; done) | (simp; omega) | assumption) | exact itL 0 rfl default (by first | omega | (simp; done) | (simp; omega) | assumption) | exact itT 0 rfl default (by first | omega | (simp; done) | (simp; omega) | assumption))) (by constructor)) (xv 3) (by omega)) rfl rfl (by first | exact Or.inl rfl | exact Or.inr (Or.inl rfl)) hq0 (by rw [hsl]; exact hq1) (by decide +kernel) (by decide +kernel)) ?_
          rw [sgD_set]
          exact xss_nil
        · rw [blankS] at h
          exact absurd hb (of_decide_eq_false h)
      · obtain ⟨s', e2, z1, z2, z3⟩ := fin y ⟨hy.len, hy.signs, hb⟩
        refine ⟨s', _, e2, z1, putn 6, start ?_, z3⟩
        refine xss_form ?_
        refine xss_ifX ⟨_, (xt_eq (xe_view 8 rfl rfl (xe_joinE (xe_str (l := []) (by decide +kernel)) (XE.eq (xv 8) (by rw [sgD_eq])) (flat_ones _) (by omega)) rfl) (xe_times (xe_str (l := [45]) (by decide +kernel)) (xv 3) (by first | exact MulD.i _ _ (by first | exact Or.inl (by omega) | exact Or.inr (by omega) | assumption) | exact MulD.s _ _ _ rfl (by first | omega | (simp; done) | (simp; omega) | assumption) (by first | omega | (simp; done) | (simp; omega) | assumption) | exact MulD.l _ _ _ rfl (by first | omega | (simp; done) | (simp; omega) | assumption) (by first | omega | (simp; done) | (simp; omega) | assumption))) (by constructor)), fun h => ?_, fun h => ?_⟩
        · rw [blankS] at h
          exact absurd (of_decide_eq_true h) hb
        exact .skip z2) ⟨rfl, by simp⟩
  rw [Nat.zero_add, List.length_range] at hN1
  refine ⟨N, hN1, hN2, rfl, _, .rt _, ?_⟩
  show XSs (W.ga N__law_crowd (defScope (top 83)) 3) (defBody (top 83)) [.v (.q ns), .v (.i A), .v (.i (many : Int)), .v (.i (n : Int)), .v (.s m), .no, .no, .no, .no, .no, .no] _; refine xss_form ?_
  refine xss_cons (xs_setN 5 (xn_lst xa_nil) pt_ (by simp)) ?_
  refine xss_for (xi_range F.n_range (xv 2) (by first | omega | (simp; done) | (simp; omega) | assumption)) (xg1 6 pt_) (.inl ⟨_, hloop, ?_⟩)
  refine XSs.weakL (env' := [.v (.q ns), .v (.i A), .v (.i (many : Int)), .v (.i (n : Int)), .v (.s m), .v (.l (N.map .s)), .no, .no, .no, .no, .no]) ?_ (by repeat (first | exact Wk.nil | refine Wk.same ?_ | refine Wk.drop ?_ | refine Wk.shl ?_ | refine Wk.shk ?_))
  refine xss_one (xs_ret ?_)
  exact (xv 5)
end
end Q8
namespace Q8
open PySem L2 PyProof.Rows
def menuT : List Tx := [[120], [98, 101, 116, 97], [121, 50], [109, 115], [113], [99, 111, 112, 121, 49, 48], [122], [97, 108, 112, 104, 97, 49]]
def mnopT : Tx := [109, 110, 111, 112, 113, 114, 115, 116]
def longB (len d : Nat) : Bool := decide (8 ≤ d) || decide (8 < len)
def nameF (len d k : Nat) : Tx := if longB len d then setAt mnopT (d % 8) (at_ lettersT ((19 * k + 7) % 26)) else menuT.getD ((d + k) % 8) []
def namedF (L : List Tx) (d : Nat) : Sm := (List.range L.length).map fun k => (nameF L.length d k, L.getD k [])
def okNb (x : Tx) : Bool := decide (1 ≤ x.length) && (decide (x.length ≤ 8) && (decide (at_ x 0 ∈ lettersT) && x.all fun c => decide (c ∈ lettersT) || decide (c ∈ digitsT)))
theorem okN_of {x : Tx} (h : okNb x = true) : OkN x := by
  unfold okNb at h
  simp only [Bool.and_eq_true, decide_eq_true_eq, List.all_eq_true, Bool.or_eq_true] at h
  exact ⟨h.1, h.2.1, h.2.2.1, h.2.2.2⟩
theorem menu_ok : ∀ i, i < 8 → okNb (menuT.getD i []) = true := by decide +kernel
theorem mnop_ok : ∀ p, p < 8 → ∀ i, i < 26 → okNb (setAt mnopT p (at_ lettersT i)) = true := by decide +kernel
theorem name_ok (len d k : Nat) : OkN (nameF len d k) := by
  unfold nameF
  split
  · exact okN_of (mnop_ok _ (Nat.mod_lt _ (by omega)) _ (Nat.mod_lt _ (by omega)))
  · exact okN_of (menu_ok _ (Nat.mod_lt _ (by omega)))
theorem mnop_inj : ∀ p, p < 8 → ∀ i, i < 26 → ∀ j, j < 26 → setAt mnopT p (at_ lettersT i) = setAt mnopT p (at_ lettersT j) → i = j := by decide +kernel
theorem menu_inj : ∀ i, i < 8 → ∀ j, j < 8 → menuT.getD i [] = menuT.getD j [] → i = j := by decide +kernel
theorem step_inj : ∀ i, i < 26 → ∀ j, j < 26 → (19 * i + 7) % 26 = (19 * j + 7) % 26 → i = j := by decide +kernel
theorem name_inj {len d i j : Nat} (hl : len ≤ 26) (hi : i < len) (hj : j < len) (h : nameF len d i = nameF len d j) : i = j := by
  unfold nameF at h
  cases hb : longB len d with
  | true =>
    rw [hb, if_pos rfl, if_pos rfl] at h
    exact step_inj i (by omega) j (by omega) (mnop_inj _ (Nat.mod_lt _ (by omega)) _ (Nat.mod_lt _ (by omega)) _ (Nat.mod_lt _ (by omega)) h)
  | false =>
    rw [hb, if_neg (by simp), if_neg (by simp)] at h
    have := menu_inj _ (Nat.mod_lt _ (by omega)) _ (Nat.mod_lt _ (by omega)) h
    unfold longB at hb
    simp only [Bool.or_eq_false_iff, decide_eq_false_iff_not] at hb
    omega
theorem named_lay (L : List Tx) (d : Nat) : layT (namedF L d) = L := by
  unfold layT namedF
  rw [List.map_map]
  apply List.ext_getElem?
  intro i
  rw [List.getElem?_map]
  by_cases h : i < L.length
  · rw [List.getElem?_range h, List.getElem?_eq_getElem h]
    simp [List.getD_eq_getElem?_getD, h]
  · rw [List.getElem?_eq_none (by simpa using h), List.getElem?_eq_none (by simpa using h)]
    rfl
theorem named_len (L : List Tx) (d : Nat) : (namedF L d).length = L.length := by simp [namedF]
theorem named_nd {L : List Tx} {d : Nat} (hl : L.length ≤ 26) : (namesT (namedF L d)).Nodup := by
  unfold namesT namedF
  rw [List.map_map]
  refine List.pairwise_map.mpr ?_
  refine List.Pairwise.imp_of_mem ?_ (List.pairwise_lt_range (n := L.length))
  intro i j hi hj hij
  have hi := List.mem_range.mp hi
  have hj := List.mem_range.mp hj
  intro h
  have := name_inj hl hi hj h
  omega
theorem named_names {L : List Tx} {d : Nat} : ∀ q ∈ namedF L d, OkN q.1 ∧ q.2 ∈ L := by
  intro q hq
  obtain ⟨k, hk, rfl⟩ := List.mem_map.mp hq
  exact ⟨name_ok _ _ _, getD_mem' (List.mem_range.mp hk)⟩
section
variable {W : Wd}
theorem sp__law_named (F : Wo W) {L : List Tx} {d : Nat} (hd : d < 100) (hl : L.length ≤ 26) : RB W N__law_named (defScope (top 72)) 2 (defBody (top 72)) 2 [.l (L.map .s), .i (d : Int)] (.l ((namedF L d).map pairL)) := by
  refine ⟨rfl, _, .rt _, ?_⟩
  show XSs (W.ga N__law_named (defScope (top 72)) 2) (defBody (top 72)) [.v (.l (L.map .s)), .v (.i (d : Int)), .no, .no, .no, .no, .no] _; refine xss_form ?_
  have hm8 : menuT.length = 8 := rfl
  have hl26 : lettersT.length = 26 := rfl
  have hmn : mnopT.length = 8 := rfl
  refine xss_setX 2 pt_ ⟨_, (XE.eq (xe_lst (xa_cons (xe_str (l := [120]) (by decide +kernel)) (xa_cons (xe_str (l := [98, 101, 116, 97]) (by decide +kernel)) (xa_cons (xe_str (l := [121, 50]) (by decide +kernel)) (xa_cons (xe_str (l := [109, 115]) (by decide +kernel)) (xa_cons (xe_str (l := [113]) (by decide +kernel)) (xa_cons (xe_str (l := [99, 111, 112, 121, 49, 48]) (by decide +kernel)) (xa_cons (xe_str (l := [122]) (by decide +kernel)) (xa_cons (xe_str (l := [97, 108, 112, 104, 97, 49]) (by decide +kernel)) xa_nil)))))))) (by simp)) (d' := .l (menuT.map .s)) rfl), ?_⟩
  refine xss_cons (xs_setN 3 (xn_lst xa_nil) pt_ (by simp)) ?_
  refine xss_foldN (S := Sm) (s := []) (l := List.range (L.map D.s).length) (f := fun k : Nat => .i (k : Int)) (step := fun s k => s ++ [(nameF L.length d k, L.getD k [])]) (E := fun s => [.v (.l (L.map .s)), .v (.i (d : Int)), .v (.l (menuT.map .s)), .ol (s.map pairL), .no, .no, .no]) (fun i s => s.length ≤ i) (Nat.le_refl 0) (xi_range F.n_range (xe_len F.n_len (xv 0) (by first | exact LenD.l _ | exact LenD.t _ | exact LenD.q _ | exact LenD.s _ (by first | omega | (simp; done) | (simp; omega) | assumption))) (by first | omega | (simp; done) | (simp; omega) | assumption)) (xg1 4 pt_) (fun i s k hki hs => ?_) fun _ => ?_
  · have hk : k < L.length := by simpa using List.mem_range.mp (List.mem_of_getElem? hki)
    have hil : i < L.length := by simpa using (List.getElem?_eq_some_iff.mp hki).1
    have hol : (s.map pairL).length < 16777216 := by simp; omega
    have fin : ∀ pl : Sl, XSs (W.ga N__law_named (defScope (top 72)) 2) ((whB (stAt (defBody (top 72)) 2)).drop 2) [.v (.l (L.map .s)), .v (.i (d : Int)), .v (.l (menuT.map .s)), .ol (s.map pairL), .v (.i (k : Int)), .v (.s (nameF L.length d k)), pl] (.nx [.v (.l (L.map .s)), .v (.i (d : Int)), .v (.l (menuT.map .s)), .ol ((s ++ [(nameF L.length d k, L.getD k [])]).map pairL), .v (.i (k : Int)), .v (.s (nameF L.length d k)), pl]) := fun pl => by
      refine xss_form ?_
      refine xss_cons (xs_append 3 (xe_lst (xa_cons (xv 5) (xa_cons (xe_ix (xv 0) (xv 4) (itL (f := D.s) k rfl [] hk)) xa_nil)) (by first | omega | (simp; done) | (simp; omega) | assumption)) rfl rfl (by first | exact Or.inl rfl | exact Or.inr (Or.inl rfl)) hol (by decide +kernel) (by decide +kernel)) ?_
      simp only [List.set_cons_zero, List.set_cons_succ, List.map_append, List.map_cons, List.map_nil]
      exact xss_nil
    cases hb : longB L.length d with
    | true =>
      refine ⟨by simp; omega, _, [.v (.l (L.map .s)), .v (.i (d : Int)), .v (.l (menuT.map .s)), .ol ((s ++ [(nameF L.length d k, L.getD k [])]).map pairL), .v (.i (k : Int)), .v (.s (nameF L.length d k)), .v (.i ((d : Int) % 8))], putn 4, ?_, by repeat (first | exact Wk.nil | refine Wk.same ?_ | refine Wk.drop ?_ | refine Wk.shl ?_ | refine Wk.shk ?_)⟩
      refine xss_form ?_
      refine xss_setX 5 pt_ ⟨_, (xe_ix (xv 2) (xe_mod (xe_int1 F.n_int (xe_plus (xv 1) (xv 4) (by first | exact AddD.i _ _ | exact AddD.s _ _ (by first | omega | (simp; done) | (simp; omega) | assumption) | exact AddD.l _ _ (by first | omega | (simp; done) | (simp; omega) | assumption) | exact AddD.t _ _ (by first | omega | (simp; done) | (simp; omega) | assumption))) (by constructor)) xe_int (by first | omega | (simp; done) | (simp; omega) | assumption)) (itL (f := D.s) ((d + k) % 8) (by omega) [] (by rw [hm8]; omega))), ?_⟩
      refine xss_ifX ⟨true, XT.eq (XW.xt (xw_or (xt_ge (xv 1) xe_int) (fun hh1 => (xw_or1 (xt_gt (xe_len F.n_len (xv 0) (by first | exact LenD.l _ | exact LenD.t _ | exact LenD.q _ | exact LenD.s _ (by first | omega | (simp; done) | (simp; omega) | assumption))) xe_int))))) (by (rw [← hb, longB, List.length_map]; congr 1 <;> exact decide_eq_decide.mpr (by omega))), fun h => ?_, fun h => ?_⟩
      · refine .nx (xss_form ?_) (fin (.v (.i ((d : Int) % 8))))
        refine xss_setX 6 pt_ ⟨_, (xe_mod (xe_int1 F.n_int (xv 1) (by constructor)) xe_int (by first | omega | (simp; done) | (simp; omega) | assumption)), ?_⟩
        have e1 : ((d : Int) % 8).toNat = d % 8 := by omega
        have e2 : ((d : Int) % 8 + 1).toNat = d % 8 + 1 := by omega
        have hnm : D.s (mnopT.take ((d : Int) % 8).toNat ++ [lettersT.getD ((19 * k + 7) % 26) 0] ++ mnopT.drop ((d : Int) % 8 + 1).toNat) = .s (nameF L.length d k) := by
          rw [e1, e2, nameF, hb, if_pos rfl]; rfl
        refine xss_setX 5 pt_ ⟨_, (XE.eq (xe_plus (xe_plus (XE.eq (xe_slS (xe_str (l := mnopT) (by decide +kernel)) part_none (part_some (xv 6)) (by decide)) (by rw [cut_to (by omega)])) (xe_ix (xe_str (l := lettersT) (by decide +kernel)) (xe_mod (xe_plus (xe_times xe_int (xv 4) (by first | exact MulD.i _ _ (by first | exact Or.inl (by omega) | exact Or.inr (by omega) | assumption) | exact MulD.s _ _ _ rfl (by first | omega | (simp; done) | (simp; omega) | assumption) (by first | omega | (simp; done) | (simp; omega) | assumption) | exact MulD.l _ _ _ rfl (by first | omega | (simp; done) | (simp; omega) | assumption) (by first | omega | (simp; done) | (simp; omega) | assumption))) xe_int (by first | exact AddD.i _ _ | exact AddD.s _ _ (by first | omega | (simp; done) | (simp; omega) | assumption) | exact AddD.l _ _ (by first | omega | (simp; done) | (simp; omega) | assumption) | exact AddD.t _ _ (by first | omega | (simp; done) | (simp; omega) | assumption))) xe_int (by first | omega | (simp; done) | (simp; omega) | assumption)) (itS ((19 * k + 7) % 26) (by omega) (by rw [hl26]; omega) (by rw [hl26]; omega))) (AddD.s _ _ (by simp; omega))) (XE.eq (xe_slS (xe_str (l := mnopT) (by decide +kernel)) (part_some (xe_plus (xv 6) xe_int (by first | exact AddD.i _ _ | exact AddD.s _ _ (by first | omega | (simp; done) | (simp; omega) | assumption) | exact AddD.l _ _ (by first | omega | (simp; done) | (simp; omega) | assumption) | exact AddD.t _ _ (by first | omega | (simp; done) | (simp; omega) | assumption)))) part_none (by decide)) (by rw [cut_from (by omega)])) (AddD.s _ _ (by simp; omega))) (d' := .s (nameF L.length d k)) hnm), ?_⟩
        exact xss_nil
      · cases h
    | false =>
      refine ⟨by simp; omega, _, [.v (.l (L.map .s)), .v (.i (d : Int)), .v (.l (menuT.map .s)), .ol ((s ++ [(nameF L.length d k, L.getD k [])]).map pairL), .v (.i (k : Int)), .v (.s (nameF L.length d k)), .no], putn 4, ?_, by repeat (first | exact Wk.nil | refine Wk.same ?_ | refine Wk.drop ?_ | refine Wk.shl ?_ | refine Wk.shk ?_)⟩
      refine xss_form ?_
      refine xss_setX 5 pt_ ⟨_, (xe_ix (xv 2) (xe_mod (xe_int1 F.n_int (xe_plus (xv 1) (xv 4) (by first | exact AddD.i _ _ | exact AddD.s _ _ (by first | omega | (simp; done) | (simp; omega) | assumption) | exact AddD.l _ _ (by first | omega | (simp; done) | (simp; omega) | assumption) | exact AddD.t _ _ (by first | omega | (simp; done) | (simp; omega) | assumption))) (by constructor)) xe_int (by first | omega | (simp; done) | (simp; omega) | assumption)) (itL (f := D.s) ((d + k) % 8) (by omega) [] (by rw [hm8]; omega))), ?_⟩
      have hnm : menuT.getD ((d + k) % 8) [] = nameF L.length d k := by rw [nameF, hb, if_neg (by simp)]
      rw [hnm]
      refine xss_ifX ⟨false, XT.eq (XW.xt (xw_or (xt_ge (xv 1) xe_int) (fun hh1 => (xw_or1 (xt_gt (xe_len F.n_len (xv 0) (by first | exact LenD.l _ | exact LenD.t _ | exact LenD.q _ | exact LenD.s _ (by first | omega | (simp; done) | (simp; omega) | assumption))) xe_int))))) (by (rw [← hb, longB, List.length_map]; congr 1 <;> exact decide_eq_decide.mpr (by omega))), fun h => ?_, fun h => ?_⟩
      · cases h
      exact .skip (fin .no)
  rw [fold_snoc, List.nil_append, List.length_map]
  refine XSs.weakL (env' := [.v (.l (L.map .s)), .v (.i (d : Int)), .v (.l (menuT.map .s)), .v (.l ((namedF L d).map pairL)), .no, .no, .no]) ?_ (by repeat (first | exact Wk.nil | refine Wk.same ?_ | refine Wk.drop ?_ | refine Wk.shl ?_ | refine Wk.shk ?_))
  refine xss_one (xs_ret ?_)
  exact (xv 3)
end
end Q8
namespace Q8
open PySem L2 PyProof.Rows
def asgVal : Stmt → Expr
  | .Assign (value := v) .. => v
  | _ => .Constant .none 0 ⟨0, 0, 0, 0⟩
def lcElt : Expr → Expr
  | .ListComp e _ _ _ => e
  | e => e
def lcSc : Expr → Scope
  | .ListComp _ _ s _ => s
  | _ => defScope (top 0)
theorem All2.drop {α β : Type} {R : α → β → Prop} : ∀ {l : List α} {m : List β} (n : Nat), All2 R l m → All2 R (l.drop n) (m.drop n)
  | _, _, 0, h => h
  | _, _, _ + 1, .nil => .nil
  | _, _, n + 1, .cons _ t => by simpa using t.drop n
def sizesT : List Nat := [3, 4, 3, 2, 4, 5, 5, 3, 4, 1, 4, 5]
def manyT : List Nat := [3, 4, 5, 2, 4, 5, 3, 4, 5, 1, 4, 0]
theorem sizes_ok : ∀ i, i < 12 → 1 ≤ sizesT.getD i 0 ∧ sizesT.getD i 0 ≤ 5 := by decide
theorem OkM.mono {m m' : Tx} {n : Nat} {x : Tx} (h : OkM m n x) (hm : ∀ c ∈ m, c ∈ m') : OkM m' n x := ⟨h.len, fun c hc => (h.signs c hc).imp id (hm c), h.full⟩
theorem nats_drop (l : List Nat) (n : Nat) : (natsD l).drop n = natsD (l.drop n) := by simp [natsD, List.map_drop]
section
variable {W : Wd}
theorem sp__law_base (F : Wo W) {U : Nat} (ns : List Int) (A : Int) (hA0 : 0 ≤ A) (hA : A ≤ 900) (hU : U ≤ 10) : ∃ (n : Nat) (m : Tx) (L : List Tx), 1 ≤ n ∧ n ≤ 5 ∧ Mk3 m ∧ L.length ≤ U ∧ (∀ x ∈ L, OkM m n x) ∧ RB W N__law_base (defScope (top 73)) 3 (defBody (top 73)) 3 [.q ns, .i A, .i (U : Int)] (.l [.i (n : Int), .s m, .l (L.map .s)]) := by
  obtain ⟨c, hc⟩ := sp__law_cellI F ns A hA0 (by omega)
  obtain ⟨l, hl, hd⟩ := sp__law_digits F c (sizes := [12, 12, 8, 4, 27, 26, 25]) (by decide) (by decide)
  have hlen : l.length = 7 := hl.len
  have hl0 : l.getD 0 0 < 12 := hl.lt 0 (by decide)
  have hl1 : l.getD 1 0 < 12 := hl.lt 1 (by decide)
  obtain ⟨m, hm3, hM⟩ := sp__law_marks F (l := l.drop 3) (All2.drop 3 hl)
  have hml := hm3.1
  have hs12 : sizesT.length = 12 := rfl
  have hm12 : manyT.length = 12 := rfl
  obtain ⟨n1, n2⟩ := sizes_ok _ hl0
  generalize hn : sizesT.getD (l.getD 0 0) 0 = n at n1 n2
  have hink : Mk3 (m.take (2 : Int).toNat ++ [at_ m (2 * (((l.getD 2 0 : Nat) : Int) % 2)).toNat]) ∧ ∀ c ∈ m.take (2 : Int).toNat ++ [at_ m (2 * (((l.getD 2 0 : Nat) : Int) % 2)).toNat], c ∈ m := by
    have hsub : ∀ c ∈ m.take (2 : Int).toNat ++ [at_ m (2 * (((l.getD 2 0 : Nat) : Int) % 2)).toNat], c ∈ m := fun c hc => by
      rcases List.mem_append.mp hc with z | z
      · exact List.mem_of_mem_take z
      · rw [List.mem_singleton.mp z]; exact at_mem (by omega)
    exact ⟨⟨by simp [hml], fun c hc => hm3.2 c (hsub c hc)⟩, hsub⟩
  generalize hI : m.take (2 : Int).toNat ++ [at_ m (2 * (((l.getD 2 0 : Nat) : Int) % 2)).toNat] = ink at hink
  have hmin : min U (manyT.getD (l.getD 1 0) 0) ≤ U := Nat.min_le_left _ _
  generalize hmm : min U (manyT.getD (l.getD 1 0) 0) = M at hmin
  obtain ⟨L, hcomp, hL⟩ := comp_ex (put := putN 9) (Γb := (W.ga N__law_base (defScope (top 73)) 3).blk (lcSc (asgVal (stAt (defBody (top 73)) 5)))) (elt := lcElt (asgVal (stAt (defBody (top 73)) 5))) (env := [.v (.q ns), .v (.i A), .v (.i (U : Int)), .v (.l (natsD l)), .v (.i (n : Int)), .v (.i (M : Int)), .v (.s m), .v (.s ink), .no, .no]) (f := fun k : Nat => .i (k : Int)) (g := D.s) (R := fun (k : Nat) x => OkM m n x) (l := List.range M) (fun k hk => by
      have hk := List.mem_range.mp hk
      obtain ⟨c2, hc2⟩ := sp__law_cellI F ns (A + 1 + (k : Int)) (by omega) (by omega)
      obtain ⟨l2, hl2, hd2⟩ := sp__law_digits F c2 (sizes := [8, 8, 8, 8, 8]) (by decide) (by decide)
      obtain ⟨x, hx, hst⟩ := sp__law_stamp F (n := n) (l := l2) hink.1 (by rw [hl2.len]; simp; omega) n1 (by omega)
      refine ⟨_, x, putn 9, ?_, hx.mono hink.2⟩
      conv => arg 2; whnf
      exact (xe_call F.kn__law_stamp (by dsimp only [Wd.ga, Ga.blk]; decide) (xa_cons (xv 7) (xa_cons (xe_call F.kn__law_digits (by dsimp only [Wd.ga, Ga.blk]; decide) (xa_cons (xe_call F.kn__law_cell (by dsimp only [Wd.ga, Ga.blk]; decide) (xa_cons (xv 0) (xa_cons (xe_plus (xe_plus (xv 1) xe_int (by first | exact AddD.i _ _ | exact AddD.s _ _ (by first | omega | (simp; done) | (simp; omega) | assumption) | exact AddD.l _ _ (by first | omega | (simp; done) | (simp; omega) | assumption) | exact AddD.t _ _ (by first | omega | (simp; done) | (simp; omega) | assumption))) (xv 9) (by first | exact AddD.i _ _ | exact AddD.s _ _ (by first | omega | (simp; done) | (simp; omega) | assumption) | exact AddD.l _ _ (by first | omega | (simp; done) | (simp; omega) | assumption) | exact AddD.t _ _ (by first | omega | (simp; done) | (simp; omega) | assumption))) xa_nil)) (hc2)) (xa_cons (XE.eq (xe_times (xe_lst (xa_cons xe_int xa_nil) (by first | omega | (simp; done) | (simp; omega) | assumption)) xe_int (by first | exact MulD.i _ _ (by first | exact Or.inl (by omega) | exact Or.inr (by omega) | assumption) | exact MulD.s _ _ _ rfl (by first | omega | (simp; done) | (simp; omega) | assumption) (by first | omega | (simp; done) | (simp; omega) | assumption) | exact MulD.l _ _ _ rfl (by first | omega | (simp; done) | (simp; omega) | assumption) (by first | omega | (simp; done) | (simp; omega) | assumption))) (d' := .l (natsD [8, 8, 8, 8, 8])) rfl) xa_nil)) (hd2)) (xa_cons (xv 4) xa_nil))) (hst)))
  refine ⟨n, m, L, n1, n2, hm3, by rw [hL.len, List.length_range]; exact hmin, fun x hx => All2.right (P := OkM m n) (fun _ _ h => h) hL x hx, rfl, _, .rt _, ?_⟩
  show XSs (W.ga N__law_base (defScope (top 73)) 3) (defBody (top 73)) [.v (.q ns), .v (.i A), .v (.i (U : Int)), .no, .no, .no, .no, .no, .no, .no] _; refine xss_form ?_
  refine xss_setX 3 pt_ ⟨_, (xe_call F.kn__law_digits (by dsimp only [Wd.ga, Ga.blk]; decide) (xa_cons (xe_call F.kn__law_cell (by dsimp only [Wd.ga, Ga.blk]; decide) (xa_cons (xv 0) (xa_cons (xv 1) xa_nil)) (hc)) (xa_cons (XE.eq (xe_lst (xa_cons xe_int (xa_cons xe_int (xa_cons xe_int (xa_cons xe_int (xa_cons xe_int (xa_cons xe_int (xa_cons xe_int xa_nil))))))) (by first | omega | (simp; done) | (simp; omega) | assumption)) (d' := .l (natsD [12, 12, 8, 4, 27, 26, 25])) rfl) xa_nil)) (hd)), ?_⟩
  refine xss_setX 4 pt_ ⟨_, (xe_ix (XE.eq (xe_lst (xa_cons xe_int (xa_cons xe_int (xa_cons xe_int (xa_cons xe_int (xa_cons xe_int (xa_cons xe_int (xa_cons xe_int (xa_cons xe_int (xa_cons xe_int (xa_cons xe_int (xa_cons xe_int (xa_cons xe_int xa_nil)))))))))))) (by first | omega | (simp; done) | (simp; omega) | assumption)) (d' := .l (natsD sizesT)) rfl) (xe_ix (xv 3) xe_int (by first | exact itWT 0 rfl rfl | exact itW 0 rfl rfl | exact itS 0 rfl (by first | omega | (simp; done) | (simp; omega) | assumption) (by first | omega | (simp; done) | (simp; omega) | assumption) | exact itN 0 rfl (by first | omega | (simp; done) | (simp; omega) | assumption) | exact itI 0 rfl (by first | omega | (simp; done) | (simp; omega) | assumption) | exact itL 0 rfl default (by first | omega | (simp; done) | (simp; omega) | assumption) | exact itT 0 rfl default (by first | omega | (simp; done) | (simp; omega) | assumption))) (itN _ rfl (by rw [hs12]; omega))), ?_⟩
  rw [hn]
  refine xss_setX 5 pt_ ⟨_, (XE.eq (xe_two (id := "min") (g := fun i j => if j < i then j else i) F.n_min (xv 2) (xe_ix (XE.eq (xe_lst (xa_cons xe_int (xa_cons xe_int (xa_cons xe_int (xa_cons xe_int (xa_cons xe_int (xa_cons xe_int (xa_cons xe_int (xa_cons xe_int (xa_cons xe_int (xa_cons xe_int (xa_cons xe_int (xa_cons xe_int xa_nil)))))))))))) (by first | omega | (simp; done) | (simp; omega) | assumption)) (d' := .l (natsD manyT)) rfl) (xe_ix (xv 3) xe_int (by first | exact itWT 1 rfl rfl | exact itW 1 rfl rfl | exact itS 1 rfl (by first | omega | (simp; done) | (simp; omega) | assumption) (by first | omega | (simp; done) | (simp; omega) | assumption) | exact itN 1 rfl (by first | omega | (simp; done) | (simp; omega) | assumption) | exact itI 1 rfl (by first | omega | (simp; done) | (simp; omega) | assumption) | exact itL 1 rfl default (by first | omega | (simp; done) | (simp; omega) | assumption) | exact itT 1 rfl default (by first | omega | (simp; done) | (simp; omega) | assumption))) (itN _ rfl (by rw [hm12]; omega))) (fun _ => call_min2 rfl)) (d' := .i ((min U (manyT.getD (l.getD 1 0) 0) : Nat) : Int)) (congrArg D.i (by split <;> omega))), ?_⟩
  rw [hmm]
  refine xss_setX 6 pt_ ⟨_, (xe_call F.kn__law_marks (by dsimp only [Wd.ga, Ga.blk]; decide) (xa_cons (XE.eq (xe_slL (xv 3) (part_some xe_int) part_none) (d' := .l (natsD (l.drop 3))) (by rw [cut_from (by omega), show (3 : Int).toNat = 3 from rfl, nats_drop])) xa_nil) (hM)), ?_⟩
  refine xss_setX 7 pt_ ⟨_, (xe_plus (XE.eq (xe_slS (xv 6) part_none (part_some xe_int) (by omega)) (by rw [cut_to (by omega)])) (xe_ix (xv 6) (xe_times xe_int (xe_int1 F.n_int (xe_mod (xe_ix (xv 3) xe_int (by first | exact itWT 2 rfl rfl | exact itW 2 rfl rfl | exact itS 2 rfl (by first | omega | (simp; done) | (simp; omega) | assumption) (by first | omega | (simp; done) | (simp; omega) | assumption) | exact itN 2 rfl (by first | omega | (simp; done) | (simp; omega) | assumption) | exact itI 2 rfl (by first | omega | (simp; done) | (simp; omega) | assumption) | exact itL 2 rfl default (by first | omega | (simp; done) | (simp; omega) | assumption) | exact itT 2 rfl default (by first | omega | (simp; done) | (simp; omega) | assumption))) xe_int (by first | omega | (simp; done) | (simp; omega) | assumption)) (by constructor)) (by first | exact MulD.i _ _ (by first | exact Or.inl (by omega) | exact Or.inr (by omega) | assumption) | exact MulD.s _ _ _ rfl (by first | omega | (simp; done) | (simp; omega) | assumption) (by first | omega | (simp; done) | (simp; omega) | assumption) | exact MulD.l _ _ _ rfl (by first | omega | (simp; done) | (simp; omega) | assumption) (by first | omega | (simp; done) | (simp; omega) | assumption))) (inS (by omega) (by omega) (by omega))) (by first | exact AddD.i _ _ | exact AddD.s _ _ (by first | omega | (simp; done) | (simp; omega) | assumption) | exact AddD.l _ _ (by first | omega | (simp; done) | (simp; omega) | assumption) | exact AddD.t _ _ (by first | omega | (simp; done) | (simp; omega) | assumption))), ?_⟩
  rw [hI]
  refine xss_cons (xs_setLc 8 (own := [("_law_k", 9)]) lc_ rfl rfl (fun _ => rfl) (xi_range F.n_range (xv 5) (by first | omega | (simp; done) | (simp; omega) | assumption)) (xg1 9 pt_) (by first | (simp [rangeD]; omega) | (simp; omega) | (simp; done)) hcomp) ?_
  refine xss_one (xs_ret ?_)
  exact (xe_lst (xa_cons (xv 4) (xa_cons (xv 6) (xa_cons (xv 8) xa_nil))) (by first | omega | (simp; done) | (simp; omega) | assumption))
end
end Q8
namespace Q8
open PySem L2 PyProof.Rows
/-- the layer with gaps of blanks before each cell -/
def gapF (g : List Nat) (x : Tx) (s : Tx) (k : Nat) : Tx := s ++ blank (g.getD k 0) ++ [at_ x k]
def gapsF (g : List Nat) (x : Tx) : Tx := (List.range x.length).foldl (gapF g x) []
def wideF (w : Nat) (g : List Nat) (x : Tx) : Tx :=
  if w = 1 then (List.replicate (30 / x.length) x).flatten else gapsF g x ++ blank (if w = 0 then 30 - (gapsF g x).length else g.getD 5 0)
theorem rep_blank (n : Nat) : (List.replicate n [45]).flatten = blank n := by simp [blank]
section
variable {W : Wd}
theorem sp__law_wider (F : Wo W) {w : Nat} {g : List Nat} {x : Tx} (h1 : 1 ≤ x.length) (h5 : x.length ≤ 5) (hg : g.length = 6) (hg4 : ∀ i, i < 6 → g.getD i 0 ≤ 4) : RB W N__law_wider (defScope (top 87)) 2 (defBody (top 87)) 4 [.s x, .i (w : Int), .l (natsD g), .i 30] (.s (wideF w g x)) := by
  refine ⟨rfl, _, .rt _, ?_⟩
  show XSs (W.ga N__law_wider (defScope (top 87)) 2) (defBody (top 87)) [.v (.s x), .v (.i (w : Int)), .v (.l (natsD g)), .v (.i 30), .no, .no] _; refine xss_form ?_
  by_cases e1 : w = 1
  · refine xss_ifX ⟨true, XT.eq (xt_eq (xv 1) xe_int (by constructor)) (by (exact decide_eq_true (by omega))), fun h => ?_, fun h => ?_⟩
    · refine .ret (xss_form ?_)
      refine xss_retX ⟨_, (xe_times (xv 0) (XE.eq (xe_fdiv (xv 3) (xe_len F.n_len (xv 0) (by first | exact LenD.l _ | exact LenD.t _ | exact LenD.q _ | exact LenD.s _ (by first | omega | (simp; done) | (simp; omega) | assumption))) (by first | exact ⟨by omega, by omega⟩ | assumption)) (d' := .i ((30 / x.length : Nat) : Int)) (by rcases (show x.length = 1 ∨ x.length = 2 ∨ x.length = 3 ∨ x.length = 4 ∨ x.length = 5 by omega) with h | h | h | h | h <;> rw [h] <;> rfl)) (MulD.s _ _ (30 / x.length) rfl (by omega) (by have := Nat.div_le_self 30 x.length; omega))), ?_⟩
      rw [wideF, if_pos e1]
    · cases h
  refine xss_ifX ⟨false, XT.eq (xt_eq (xv 1) xe_int (by constructor)) (by (exact decide_eq_false (by omega))), fun h => ?_, fun h => ?_⟩
  · cases h
  refine .skip (xss_form ?_)
  refine xss_setX 4 pt_ ⟨_, (xe_str (l := []) (by decide +kernel)), ?_⟩
  refine xss_foldN (S := Tx) (s := []) (l := List.range x.length) (f := fun k : Nat => .i (k : Int)) (step := gapF g x) (E := fun s => [.v (.s x), .v (.i (w : Int)), .v (.l (natsD g)), .v (.i 30), .v (.s s), .no]) (fun i s => s.length ≤ 5 * i) (by simp) (xi_range F.n_range (xe_len F.n_len (xv 0) (by first | exact LenD.l _ | exact LenD.t _ | exact LenD.q _ | exact LenD.s _ (by first | omega | (simp; done) | (simp; omega) | assumption))) (by first | omega | (simp; done) | (simp; omega) | assumption)) (xg1 5 pt_) (fun i s k hqi hs => have hk : k < x.length := List.mem_range.mp (List.mem_of_getElem? hqi); have hil : i < x.length := (by simpa using (List.getElem?_eq_some_iff.mp hqi).1); have hgk := hg4 k (by omega); have hbl := blank_len (g.getD k 0); ⟨by simp only [gapF, List.length_append, List.length_singleton, blank_len]; omega, _, [.v (.s x), .v (.i (w : Int)), .v (.l (natsD g)), .v (.i 30), .v (.s (gapF g x s k)), .v (.i (k : Int))], putn 5, ?_, by repeat (first | exact Wk.nil | refine Wk.same ?_ | refine Wk.drop ?_ | refine Wk.shl ?_ | refine Wk.shk ?_)⟩) fun hs => ?_
  · refine xss_form ?_
    refine xss_setX 4 pt_ ⟨_, (xe_plus (XE.eq (xe_plus (xv 4) (XE.eq (xe_times (xe_str (l := [45]) (by decide +kernel)) (xe_ix (xv 2) (xv 5) (itN k rfl (by omega))) (MulD.s _ _ (g.getD k 0) rfl (by simp) (by omega))) (d' := .s (blank (g.getD k 0))) (congrArg D.s (rep_blank _))) (by first | exact AddD.i _ _ | exact AddD.s _ _ (by first | omega | (simp; done) | (simp; omega) | assumption) | exact AddD.l _ _ (by first | omega | (simp; done) | (simp; omega) | assumption) | exact AddD.t _ _ (by first | omega | (simp; done) | (simp; omega) | assumption))) (d' := .s (s ++ blank (g.getD k 0))) rfl) (XE.eq (xe_ix (xv 0) (xv 5) (itS k rfl hk (by omega))) (d' := .s [at_ x k]) rfl) (AddD.s _ _ (by simp only [List.length_append, List.length_singleton]; omega))), ?_⟩
    exact xss_nil
  change (gapsF g x).length ≤ _ at hs
  rw [List.length_range] at hs
  change XSs _ _ [.v (.s x), .v (.i (w : Int)), .v (.l (natsD g)), .v (.i 30), .v (.s (gapsF g x)), .no] _
  have hg5 := hg4 5 (by omega)
  have hb5 := blank_len (g.getD 5 0)
  have hb6 := blank_len (30 - (gapsF g x).length)
  by_cases e0 : w = 0
  · refine xss_ifX ⟨true, XT.eq (xt_eq (xv 1) xe_int (by constructor)) (by (exact decide_eq_true (by omega))), fun h => ?_, fun h => ?_⟩
    · refine .ret (xss_form ?_)
      refine xss_retX ⟨_, (xe_plus (xv 4) (XE.eq (xe_times (xe_str (l := [45]) (by decide +kernel)) (xe_sub (xv 3) (xe_len F.n_len (xv 4) (by first | exact LenD.l _ | exact LenD.t _ | exact LenD.q _ | exact LenD.s _ (by first | omega | (simp; done) | (simp; omega) | assumption)))) (MulD.s _ _ (30 - (gapsF g x).length) (by omega) (by simp) (by omega))) (d' := .s (blank (30 - (gapsF g x).length))) (congrArg D.s (rep_blank _))) (by first | exact AddD.i _ _ | exact AddD.s _ _ (by first | omega | (simp; done) | (simp; omega) | assumption) | exact AddD.l _ _ (by first | omega | (simp; done) | (simp; omega) | assumption) | exact AddD.t _ _ (by first | omega | (simp; done) | (simp; omega) | assumption))), ?_⟩
      rw [wideF, if_neg e1, if_pos e0]
    · cases h
  refine xss_ifX ⟨false, XT.eq (xt_eq (xv 1) xe_int (by constructor)) (by (exact decide_eq_false (by omega))), fun h => ?_, fun h => ?_⟩
  · cases h
  refine .skip (xss_form ?_)
  refine xss_retX ⟨_, (xe_plus (xv 4) (XE.eq (xe_times (xe_str (l := [45]) (by decide +kernel)) (xe_ix (xv 2) xe_int (itN 5 rfl (by omega))) (MulD.s _ _ (g.getD 5 0) rfl (by simp) (by omega))) (d' := .s (blank (g.getD 5 0))) (congrArg D.s (rep_blank _))) (by first | exact AddD.i _ _ | exact AddD.s _ _ (by first | omega | (simp; done) | (simp; omega) | assumption) | exact AddD.l _ _ (by first | omega | (simp; done) | (simp; omega) | assumption) | exact AddD.t _ _ (by first | omega | (simp; done) | (simp; omega) | assumption))), ?_⟩
  rw [wideF, if_neg e1, if_neg e0]
end
end Q8
namespace Q8
open PySem L2 PyProof.Rows
theorem gap_len (g : List Nat) (x : Tx) : ∀ (l : List Nat) (s : Tx), (l.foldl (gapF g x) s).length = l.foldl (fun a k => a + g.getD k 0 + 1) s.length
  | [], _ => rfl
  | k :: l, s => by
    simp only [List.foldl_cons]
    rw [gap_len g x l]
    congr 1
    simp [gapF, blank_len, Nat.add_assoc]
theorem gap_keep (g : List Nat) (x : Tx) : ∀ (l : List Nat) (s : Tx), ∀ c ∈ s, c ∈ l.foldl (gapF g x) s
  | [], _, _, h => h
  | k :: l, s, c, h => gap_keep g x l _ c (by simp [gapF, h])
theorem gap_at (g : List Nat) (x : Tx) : ∀ (l : List Nat) (s : Tx), ∀ k ∈ l, at_ x k ∈ l.foldl (gapF g x) s
  | [], _, _, h => by cases h
  | j :: l, s, k, h => by
    rcases List.mem_cons.mp h with z | z
    · subst z; exact gap_keep g x l _ _ (by simp [gapF])
    · exact gap_at g x l _ k z
theorem blank_eq {n c : Nat} (h : c ∈ blank n) : c = 45 := by
  unfold blank at h; exact (List.mem_replicate.mp h).2
theorem gap_signs (g : List Nat) (x : Tx) : ∀ (l : List Nat) (s : Tx), (∀ k ∈ l, k < x.length) → (∀ c ∈ s, c = 45 ∨ c ∈ x) → ∀ c ∈ l.foldl (gapF g x) s, c = 45 ∨ c ∈ x
  | [], _, _, hs => hs
  | k :: l, s, hl, hs => by
    refine gap_signs g x l _ (fun j hj => hl j (List.mem_cons_of_mem _ hj)) fun c hc => ?_
    simp only [gapF, List.mem_append, List.mem_singleton] at hc
    rcases hc with (z | z) | z
    · exact hs c z
    · exact .inl (blank_eq z)
    · exact .inr (z ▸ at_mem (hl k List.mem_cons_self))
theorem glen_le {g : List Nat} (hg : ∀ i, i < 6 → g.getD i 0 ≤ 4) : ∀ (l : List Nat) (a : Nat), (∀ k ∈ l, k < 6) → l.foldl (fun a k => a + g.getD k 0 + 1) a ≤ a + 5 * l.length
  | [], _, _ => by simp
  | k :: l, a, h => by
    have h1 := glen_le hg l (a + g.getD k 0 + 1) (fun j hj => h j (List.mem_cons_of_mem _ hj))
    have h2 := hg k (h k List.mem_cons_self)
    simp only [List.foldl_cons, List.length_cons]
    omega
def glen (g : List Nat) (n : Nat) : Nat := (List.range n).foldl (fun a k => a + g.getD k 0 + 1) 0
theorem gaps_len (g : List Nat) (x : Tx) : (gapsF g x).length = glen g x.length := gap_len g x _ []
def wlen (w : Nat) (g : List Nat) (n : Nat) : Nat := if w = 1 then 30 / n * n else glen g n + (if w = 0 then 30 - glen g n else g.getD 5 0)
theorem rep_len (n : Nat) (x : Tx) : (List.replicate n x).flatten.length = n * x.length := by
  induction n with
  | zero => simp
  | succ n ih => rw [List.replicate_succ, List.flatten_cons, List.length_append, ih, Nat.succ_mul, Nat.add_comm]
theorem wide_len (w : Nat) (g : List Nat) (x : Tx) : (wideF w g x).length = wlen w g x.length := by
  unfold wideF wlen
  split
  · exact rep_len _ _
  · rw [List.length_append, gaps_len, blank_len]
theorem wlen_le {w n : Nat} {g : List Nat} (hn : 1 ≤ n) (hn5 : n ≤ 5) (hg : ∀ i, i < 6 → g.getD i 0 ≤ 4) : wlen w g n ≤ 30 := by
  have h := glen_le hg (List.range n) 0 (fun k hk => by have := List.mem_range.mp hk; omega)
  rw [List.length_range] at h
  change glen g n ≤ _ at h
  have h5 := hg 5 (by omega)
  unfold wlen
  split
  · exact Nat.div_mul_le_self 30 n
  · split <;> omega
theorem wide_at {w : Nat} {g : List Nat} {x : Tx} {k : Nat} (hk : k < x.length) (h30 : x.length ≤ 30) : at_ x k ∈ wideF w g x := by
  unfold wideF
  split
  · refine List.mem_flatten.mpr ⟨x, List.mem_replicate.mpr ⟨?_, rfl⟩, at_mem hk⟩
    have := Nat.div_pos h30 (by omega)
    omega
  · exact List.mem_append_left _ (gap_at g x _ _ k (List.mem_range.mpr hk))
theorem wide_signs {w : Nat} {g : List Nat} {x : Tx} : ∀ c ∈ wideF w g x, c = 45 ∨ c ∈ x := by
  intro c hc
  unfold wideF at hc
  split at hc
  · obtain ⟨y, hy, hc⟩ := List.mem_flatten.mp hc
    rw [(List.mem_replicate.mp hy).2] at hc
    exact .inr hc
  · rcases List.mem_append.mp hc with z | z
    · exact gap_signs g x _ _ (fun k hk => List.mem_range.mp hk) (by simp) c z
    · exact .inl (blank_eq z)
theorem wide_ok {m : Tx} {n w : Nat} {g : List Nat} {x : Tx} (h30 : n ≤ 30) (h : OkM m n x) : OkM m (wlen w g n) (wideF w g x) := by
  have hl := h.len
  obtain ⟨k, hk, hk'⟩ := not_blank hl h.full
  refine ⟨by rw [wide_len, hl], fun c hc => ?_, fun e => ?_⟩
  · rcases wide_signs c hc with z | z
    · exact .inl z
    · exact h.signs c z
  · have hm : at_ x k ∈ wideF w g x := wide_at (by omega) (by omega)
    rw [e] at hm
    exact hk' (blank_eq hm)
end Q8
namespace Q8
open PySem L2 PyProof.Rows
section
variable {W : Wd}
theorem part1 (l : List Nat) : cutD (natsD l) (some 1) none = natsD (l.drop 1) := by rw [cut_from (by omega), show (1 : Int).toNat = 1 from rfl, nats_drop]
theorem sp__law_widened (F : Wo W) {m : Tx} {n : Nat} {L : List Tx} (ns : List Int) (A : Int) (hA0 : 0 ≤ A) (hA : A ≤ 900) (hn1 : 1 ≤ n) (hn : n ≤ 30) (hL : ∀ x ∈ L, OkM m n x) (hfew : L.length ≤ 100) : ∃ (N : Nat) (L' : List Tx), 1 ≤ N ∧ N ≤ 30 ∧ L'.length = L.length ∧ (∀ x ∈ L', OkM m N x) ∧ RB W N__law_widened (defScope (top 88)) 3 (defBody (top 88)) 5 [.q ns, .i A, .i 30, .i (n : Int), .l (L.map .s)] (.l [.i (N : Int), .l (L'.map .s)]) := by
  obtain ⟨c, hc⟩ := sp__law_cellI F ns A hA0 (by omega)
  obtain ⟨l, hl, hd⟩ := sp__law_digits F c (sizes := [24, 5, 5, 5, 5, 5, 5]) (by decide) (by decide)
  have hlen : l.length = 7 := hl.len
  have hg : (l.drop 1).length = 6 := by simp [hlen]
  have hg4 : ∀ i, i < 6 → (l.drop 1).getD i 0 ≤ 4 := fun i hi => by
    have h := hl.lt (i + 1) (by simp; omega)
    have e : (l.drop 1).getD i 0 = l.getD (i + 1) 0 := by simp [List.getD_eq_getElem?_getD, List.getElem?_drop, Nat.add_comm]
    rw [e]
    match i, hi with
    | 0, _ => exact Nat.le_of_lt_succ h
    | 1, _ => exact Nat.le_of_lt_succ h
    | 2, _ => exact Nat.le_of_lt_succ h
    | 3, _ => exact Nat.le_of_lt_succ h
    | 4, _ => exact Nat.le_of_lt_succ h
    | 5, _ => exact Nat.le_of_lt_succ h
  by_cases hw : l.getD 0 0 > 2 ∨ n > 5
  · refine ⟨n, L, hn1, hn, rfl, hL, rfl, _, .rt _, ?_⟩
    show XSs (W.ga N__law_widened (defScope (top 88)) 3) (defBody (top 88)) [.v (.q ns), .v (.i A), .v (.i 30), .v (.i (n : Int)), .v (.l (L.map .s)), .no, .no, .no] _; refine xss_form ?_
    refine xss_setX 5 pt_ ⟨_, (xe_call F.kn__law_digits (by dsimp only [Wd.ga, Ga.blk]; decide) (xa_cons (xe_call F.kn__law_cell (by dsimp only [Wd.ga, Ga.blk]; decide) (xa_cons (xv 0) (xa_cons (xv 1) xa_nil)) (hc)) (xa_cons (XE.eq (xe_lst (xa_cons xe_int (xa_cons xe_int (xa_cons xe_int (xa_cons xe_int (xa_cons xe_int (xa_cons xe_int (xa_cons xe_int xa_nil))))))) (by first | omega | (simp; done) | (simp; omega) | assumption)) (d' := .l (natsD [24, 5, 5, 5, 5, 5, 5])) rfl) xa_nil)) (hd)), ?_⟩
    refine xss_ifX ⟨true, XT.eq (XW.xt (xw_or (xt_gt (xe_ix (xv 5) xe_int (itN 0 rfl (by omega))) xe_int) (fun hh1 => (xw_or1 (xt_gt (xv 3) xe_int))))) (by (rw [Bool.or_eq_true, decide_eq_true_eq, decide_eq_true_eq]; omega)), fun h => ?_, fun h => ?_⟩
    · refine .ret (xss_form ?_)
      refine xss_one (xs_ret ?_)
      exact (xe_lst (xa_cons (xv 3) (xa_cons (xe_listL F.n_list (xv 4)) xa_nil)) (by first | omega | (simp; done) | (simp; omega) | assumption))
    · cases h
  · have hn5 : n ≤ 5 := by omega
    have hw0 : l.getD 0 0 ≤ 2 := by omega
    have eN : (wideF (l.getD 0 0) (l.drop 1) (blank n)).length = wlen (l.getD 0 0) (l.drop 1) n := by rw [wide_len, blank_len]
    have hN := wlen_le (w := l.getD 0 0) hn1 hn5 hg4
    have hN2 : (wideF (l.getD 0 0) (l.drop 1) (blank n)).length ≤ 100000 := by rw [eN]; omega
    refine ⟨(wideF (l.getD 0 0) (l.drop 1) (blank n)).length, L.map (wideF (l.getD 0 0) (l.drop 1)), ?_, by rw [eN]; exact wlen_le hn1 hn5 hg4, by simp, fun x hx => ?_, rfl, _, .rt _, ?_⟩
    · have h45 : at_ (blank n) 0 ∈ wideF (l.getD 0 0) (l.drop 1) (blank n) := wide_at (by rw [blank_len]; omega) (by rw [blank_len]; omega)
      exact List.length_pos_of_mem h45
    · rw [eN]
      obtain ⟨y, hy, rfl⟩ := List.mem_map.mp hx
      exact wide_ok hn (hL y hy)
    show XSs (W.ga N__law_widened (defScope (top 88)) 3) (defBody (top 88)) [.v (.q ns), .v (.i A), .v (.i 30), .v (.i (n : Int)), .v (.l (L.map .s)), .no, .no, .no] _; refine xss_form ?_
    refine xss_setX 5 pt_ ⟨_, (xe_call F.kn__law_digits (by dsimp only [Wd.ga, Ga.blk]; decide) (xa_cons (xe_call F.kn__law_cell (by dsimp only [Wd.ga, Ga.blk]; decide) (xa_cons (xv 0) (xa_cons (xv 1) xa_nil)) (hc)) (xa_cons (XE.eq (xe_lst (xa_cons xe_int (xa_cons xe_int (xa_cons xe_int (xa_cons xe_int (xa_cons xe_int (xa_cons xe_int (xa_cons xe_int xa_nil))))))) (by first | omega | (simp; done) | (simp; omega) | assumption)) (d' := .l (natsD [24, 5, 5, 5, 5, 5, 5])) rfl) xa_nil)) (hd)), ?_⟩
    refine xss_ifX ⟨false, XT.eq (XW.xt (xw_or (xt_gt (xe_ix (xv 5) xe_int (itN 0 rfl (by omega))) xe_int) (fun hh1 => (xw_or1 (xt_gt (xv 3) xe_int))))) (by (rw [Bool.or_eq_false_iff, decide_eq_false_iff_not, decide_eq_false_iff_not]; omega)), fun h => ?_, fun h => ?_⟩
    · cases h
    refine .skip (xss_form ?_)
    refine xss_cons (xs_setLc 6 (own := [("_law_layer", 7)]) lc_ rfl rfl (fun _ => rfl) (xi_any (xv 4) (by constructor)) (xg1 7 pt_) (by first | (simp [rangeD]; omega) | (simp; omega) | (simp; done)) (comp_mapS (g := fun x => wideF (l.getD 0 0) (l.drop 1) x) (fun x hm => have hxl := (hL x hm).len; ⟨_, _, putn 7, (xe_call F.kn__law_wider (by dsimp only [Wd.ga, Ga.blk]; decide) (xa_cons (xv 7) (xa_cons (xe_ix (xv 5) xe_int (itN 0 rfl (by omega))) (xa_cons (XE.eq (xe_slL (xv 5) (part_some xe_int) part_none) (d' := .l (natsD (l.drop 1))) (congrArg D.l (part1 l))) (xa_cons (xv 2) xa_nil)))) ((sp__law_wider F (by omega) (by omega) hg hg4))), by rfl⟩))) ?_
    refine xss_one (xs_ret ?_)
    exact (xe_lst (xa_cons (xe_len F.n_len (xe_call F.kn__law_wider (by dsimp only [Wd.ga, Ga.blk]; decide) (xa_cons (XE.eq (xe_times (xe_str (l := [45]) (by decide +kernel)) (xv 3) (MulD.s _ _ n rfl (by simp) (by omega))) (d' := .s (blank n)) (congrArg D.s (rep_blank _))) (xa_cons (xe_ix (xv 5) xe_int (itN 0 rfl (by omega))) (xa_cons (XE.eq (xe_slL (xv 5) (part_some xe_int) part_none) (d' := .l (natsD (l.drop 1))) (congrArg D.l (part1 l))) (xa_cons (xv 2) xa_nil)))) ((sp__law_wider F (by rw [blank_len]; omega) (by rw [blank_len]; omega) hg hg4))) (by first | exact LenD.l _ | exact LenD.t _ | exact LenD.q _ | exact LenD.s _ (by first | omega | (simp; done) | (simp; omega) | assumption))) (xa_cons (xv 6) xa_nil)) (by first | omega | (simp; done) | (simp; omega) | assumption))
end
end Q8
namespace Q8
open PySem L2 PyProof.Rows
/-- the stock of another size -/
def resF (n : Nat) (st : Sm) : Sm := st.map fun q => (q.1, if n < 30 then q.2 ++ [45] else List.replicate 29 97)
theorem rep_a : (List.replicate 29 [97]).flatten = List.replicate 29 97 := by decide
section
variable {W : Wd}
theorem sp__law_resized (F : Wo W) {n : Nat} {st : Sm} (hn : n ≤ 30) (hL : ∀ q ∈ st, q.2.length = n) (hf : st.length ≤ 1000) : RB W N__law_resized (defScope (top 103)) 0 (defBody (top 103)) 2 [.i (n : Int), .l (st.map pairL)] (.l [.i ((if n < 30 then n + 1 else 29 : Nat) : Int), .l ((resF n st).map pairL)]) := by
  refine ⟨rfl, _, .rt _, ?_⟩
  show XSs (W.ga N__law_resized (defScope (top 103)) 0) (defBody (top 103)) [.v (.i (n : Int)), .v (.l (st.map pairL)), .no] _; refine xss_form ?_
  by_cases h30 : n < 30
  · have e : (resF n st).map pairL = st.map fun q => .l [.s q.1, .s (q.2 ++ [45])] := by
      simp only [resF, List.map_map, if_pos h30]; rfl
    rw [e, if_pos h30]
    refine xss_ifX ⟨true, XT.eq (xt_lt (xv 0) xe_int) (by (exact decide_eq_true (by omega))), fun h => ?_, fun h => ?_⟩
    · refine .ret (xss_form ?_)
      refine xss_retX ⟨_, (xe_lst (xa_cons (xe_plus (xv 0) xe_int (by first | exact AddD.i _ _ | exact AddD.s _ _ (by first | omega | (simp; done) | (simp; omega) | assumption) | exact AddD.l _ _ (by first | omega | (simp; done) | (simp; omega) | assumption) | exact AddD.t _ _ (by first | omega | (simp; done) | (simp; omega) | assumption))) (xa_cons (xe_lc (own := [("_law_pair", 2)]) lc_ (xi_any (xv 1) (by constructor)) (xg1 2 pt_) (by first | (simp [rangeD]; omega) | (simp; omega) | (simp; done)) (comp_map (g := fun q : Tx × Tx => .l [.s q.1, .s (q.2 ++ [45])]) (fun q hm => have hql := hL q hm; ⟨_, _, putn 2, (xe_lst (xa_cons (xe_ix (xv 2) xe_int (by first | exact itWT 0 rfl rfl | exact itW 0 rfl rfl | exact itS 0 rfl (by first | omega | (simp; done) | (simp; omega) | assumption) (by first | omega | (simp; done) | (simp; omega) | assumption) | exact itN 0 rfl (by first | omega | (simp; done) | (simp; omega) | assumption) | exact itI 0 rfl (by first | omega | (simp; done) | (simp; omega) | assumption) | exact itL 0 rfl default (by first | omega | (simp; done) | (simp; omega) | assumption) | exact itT 0 rfl default (by first | omega | (simp; done) | (simp; omega) | assumption))) (xa_cons (xe_plus (xe_ix (xv 2) xe_int (by first | exact itWT 1 rfl rfl | exact itW 1 rfl rfl | exact itS 1 rfl (by first | omega | (simp; done) | (simp; omega) | assumption) (by first | omega | (simp; done) | (simp; omega) | assumption) | exact itN 1 rfl (by first | omega | (simp; done) | (simp; omega) | assumption) | exact itI 1 rfl (by first | omega | (simp; done) | (simp; omega) | assumption) | exact itL 1 rfl default (by first | omega | (simp; done) | (simp; omega) | assumption) | exact itT 1 rfl default (by first | omega | (simp; done) | (simp; omega) | assumption))) (xe_str (l := [45]) (by decide +kernel)) (AddD.s _ _ (by simp only [List.length_singleton]; omega))) xa_nil)) (by first | omega | (simp; done) | (simp; omega) | assumption)), by rfl⟩))) xa_nil)) (by first | omega | (simp; done) | (simp; omega) | assumption)), ?_⟩
      rfl
    · cases h
  · have e : (resF n st).map pairL = st.map fun q => .l [.s q.1, .s (List.replicate 29 97)] := by
      simp only [resF, List.map_map, if_neg h30]; rfl
    rw [e, if_neg h30]
    refine xss_ifX ⟨false, XT.eq (xt_lt (xv 0) xe_int) (by (exact decide_eq_false (by omega))), fun h => ?_, fun h => ?_⟩
    · cases h
    refine .skip (xss_form ?_)
    refine xss_retX ⟨_, (xe_lst (xa_cons xe_int (xa_cons (xe_lc (own := [("_law_pair", 2)]) lc_ (xi_any (xv 1) (by constructor)) (xg1 2 pt_) (by first | (simp [rangeD]; omega) | (simp; omega) | (simp; done)) (comp_map (g := fun q : Tx × Tx => .l [.s q.1, .s (List.replicate 29 97)]) (fun q hm => ⟨_, _, putn 2, (xe_lst (xa_cons (xe_ix (xv 2) xe_int (by first | exact itWT 0 rfl rfl | exact itW 0 rfl rfl | exact itS 0 rfl (by first | omega | (simp; done) | (simp; omega) | assumption) (by first | omega | (simp; done) | (simp; omega) | assumption) | exact itN 0 rfl (by first | omega | (simp; done) | (simp; omega) | assumption) | exact itI 0 rfl (by first | omega | (simp; done) | (simp; omega) | assumption) | exact itL 0 rfl default (by first | omega | (simp; done) | (simp; omega) | assumption) | exact itT 0 rfl default (by first | omega | (simp; done) | (simp; omega) | assumption))) (xa_cons (XE.eq (xe_times (xe_str (l := [97]) (by decide +kernel)) xe_int (MulD.s _ _ 29 rfl (by simp) (by omega))) (d' := .s (List.replicate 29 97)) (congrArg D.s rep_a)) xa_nil)) (by first | omega | (simp; done) | (simp; omega) | assumption)), by rfl⟩))) xa_nil)) (by first | omega | (simp; done) | (simp; omega) | assumption)), ?_⟩
    rfl
end
end Q8
namespace Q8
open PySem L2 PyProof.Rows
section
variable {W : Wd}
theorem sp__law_cells_told (F : Wo W) {a : List Int} (hl : a.length ≤ 1000) : RB W N__law_cells_told (defScope (top 96)) 2 (defBody (top 96)) 2 [.t (a.map .i), .l (a.map .i)] (.b true) := by
  refine ⟨rfl, _, .rt _, ?_⟩
  show XSs (W.ga N__law_cells_told (defScope (top 96)) 2) (defBody (top 96)) [.v (.t (a.map .i)), .v (.l (a.map .i)), .no] _; refine xss_form ?_
  refine xss_ifX ⟨_, (XW.xt (xw_or (xt_not (xt_val (xe_isi F.n_isinstance (xv 0) (xe_bty (n := "tuple") F.n_tuple rfl (by decide +kernel)) (by constructor) (by constructor) (by first | rfl | exact kit_refl _ _) (by first | (intro c ds h; cases h; done) | (intro c ds h; cases h; first | exact F.ci1 | exact F.ci3))))) (fun hh1 => (xw_or1 (xt_ne (xe_len F.n_len (xv 0) (by first | exact LenD.l _ | exact LenD.t _ | exact LenD.q _ | exact LenD.s _ (by first | omega | (simp; done) | (simp; omega) | assumption))) (xe_len F.n_len (xv 1) (by first | exact LenD.l _ | exact LenD.t _ | exact LenD.q _ | exact LenD.s _ (by first | omega | (simp; done) | (simp; omega) | assumption))) (by constructor)))))), fun h => ?_, fun h => ?_⟩
  · simp at h
  refine .skip ?_
  refine xss_findIf (l := List.range (a.map D.i).length) (f := fun k : Nat => .i (k : Int)) (test := fun k => false) (res := fun k => .b false) (xi_range F.n_range (xe_len F.n_len (xv 1) (by first | exact LenD.l _ | exact LenD.t _ | exact LenD.q _ | exact LenD.s _ (by first | omega | (simp; done) | (simp; omega) | assumption))) (by first | omega | (simp; done) | (simp; omega) | assumption)) (xg1 2 pt_) (fun k hm => have hk : k < a.length := (by simpa using List.mem_range.mp hm); ⟨_, putn 2, XT.eq (XW.xt (xw_or (xt_not (xt_val (xe_call F.kn__law_whole (by dsimp only [Wd.ga, Ga.blk]; decide) (xa_cons (xe_ix (xv 0) (xv 2) (itT (f := D.i) k rfl 0 hk)) xa_nil) (sp__law_whole F)))) (fun hh1 => (xw_or1 (xt_ne (xe_ix (xv 0) (xv 2) (itT (f := D.i) k rfl 0 hk)) (xe_ix (xv 1) (xv 2) (itL (f := D.i) k rfl 0 hk)) (by constructor)))))) (by simp), fun ht => xe_bl, by repeat (first | exact Wk.nil | refine Wk.same ?_ | refine Wk.drop ?_ | refine Wk.shl ?_ | refine Wk.shk ?_)⟩) ?_ ?_
  · intro a ha
    have := List.find?_some ha
    cases this
  · intro _
    refine xss_one (xs_ret ?_)
    exact xe_bl
end
end Q8
namespace Q8
open PySem L2 PyProof.Rows
/-- the names of a stock with other layers, from the place d on -/
def reF (st : Sm) (L : List Tx) (d : Nat) : Sm := (List.range st.length).map fun k => ((st.getD k default).1, L.getD (d + k) [])
theorem re_len (st : Sm) (L : List Tx) (d : Nat) : (reF st L d).length = st.length := by simp [reF]
theorem re_names (st : Sm) (L : List Tx) (d : Nat) : namesT (reF st L d) = namesT st := by
  unfold namesT reF
  rw [List.map_map]
  refine List.ext_getElem (by simp) fun i h1 h2 => ?_
  have hi : i < st.length := by simpa using h2
  simp [List.getD_eq_getElem?_getD, hi]
theorem re_mem {st : Sm} {L : List Tx} {d : Nat} (h : d + st.length ≤ L.length) : ∀ q ∈ reF st L d, q.2 ∈ L := by
  intro q hq
  obtain ⟨k, hk, rfl⟩ := List.mem_map.mp hq
  have hk' := List.mem_range.mp hk
  exact getD_mem' (by omega)
section
variable {W : Wd}
theorem sp__law_widened_two (F : Wo W) {m : Tx} {n : Nat} {a b : Sm} (ns : List Int) (A : Int) (hA0 : 0 ≤ A) (hA : A ≤ 900) (hn1 : 1 ≤ n) (hn : n ≤ 30) (ha : ∀ q ∈ a, OkM m n q.2) (hb : ∀ q ∈ b, OkM m n q.2) (hfa : a.length ≤ 50) (hfb : b.length ≤ 50) : ∃ (N : Nat) (L' : List Tx), 1 ≤ N ∧ N ≤ 30 ∧ L'.length = a.length + b.length ∧ (∀ x ∈ L', OkM m N x) ∧ RB W N__law_widened_two (defScope (top 89)) 4 (defBody (top 89)) 6 [.q ns, .i A, .i 30, .i (n : Int), .l (a.map pairL), .l (b.map pairL)] (.l [.i (N : Int), .l ((reF a L' 0).map pairL), .l ((reF b L' a.length).map pairL)]) := by
  obtain ⟨N, L', h1, h2, h3, h4, hw⟩ := sp__law_widened F (L := (a ++ b).map (·.2)) ns A hA0 hA hn1 hn (fun x hx => by
    obtain ⟨q, hq, rfl⟩ := List.mem_map.mp hx
    rcases List.mem_append.mp hq with z | z
    · exact ha q z
    · exact hb q z) (by simp; omega)
  have h3' : L'.length = a.length + b.length := by rw [h3]; simp
  refine ⟨N, L', h1, h2, h3', h4, rfl, _, .rt _, ?_⟩
  show XSs (W.ga N__law_widened_two (defScope (top 89)) 4) (defBody (top 89)) [.v (.q ns), .v (.i A), .v (.i 30), .v (.i (n : Int)), .v (.l (a.map pairL)), .v (.l (b.map pairL)), .no, .no, .no, .no, .no] _; refine xss_form ?_
  refine xss_setX 6 pt_ ⟨_, (xe_call F.kn__law_widened (by dsimp only [Wd.ga, Ga.blk]; decide) (xa_cons (xv 0) (xa_cons (xv 1) (xa_cons (xv 2) (xa_cons (xv 3) (xa_cons (xe_lc (own := [("_law_pair", 9)]) lc_ (xi_any (XE.eq (xe_plus (xv 4) (xv 5) (AddD.l _ _ (by simp; omega))) (d' := .l ((a ++ b).map pairL)) (by rw [List.map_append])) (by constructor)) (xg1 9 pt_) (by first | (simp [rangeD]; omega) | (simp; omega) | (simp; done)) (comp_mapS (g := fun q : Tx × Tx => q.2) (fun q hm => ⟨_, _, putn 9, (xe_ix (xv 9) xe_int (by first | exact itWT 1 rfl rfl | exact itW 1 rfl rfl | exact itS 1 rfl (by first | omega | (simp; done) | (simp; omega) | assumption) (by first | omega | (simp; done) | (simp; omega) | assumption) | exact itN 1 rfl (by first | omega | (simp; done) | (simp; omega) | assumption) | exact itI 1 rfl (by first | omega | (simp; done) | (simp; omega) | assumption) | exact itL 1 rfl default (by first | omega | (simp; done) | (simp; omega) | assumption) | exact itT 1 rfl default (by first | omega | (simp; done) | (simp; omega) | assumption))), by rfl⟩))) xa_nil))))) (hw)), ?_⟩
  refine xss_cons (xs_setLc 7 (own := [("_law_k", 10)]) lc_ rfl rfl (fun _ => rfl) (xi_range F.n_range (xe_len F.n_len (xv 4) (by first | exact LenD.l _ | exact LenD.t _ | exact LenD.q _ | exact LenD.s _ (by first | omega | (simp; done) | (simp; omega) | assumption))) (by first | omega | (simp; done) | (simp; omega) | assumption)) (xg1 10 pt_) (by first | (simp [rangeD]; omega) | (simp; omega) | (simp; done)) (comp_map (g := fun k : Nat => .l [.s (a.getD k default).1, .s (L'.getD (0 + k) [])]) (fun k hm => have hk : k < a.length := (by simpa using List.mem_range.mp hm); ⟨_, _, putn 10, (xe_lst (xa_cons (xe_ix (xe_ix (xv 4) (xv 10) (itL (f := pairL) k rfl default hk)) xe_int (itW 0 rfl rfl)) (xa_cons (xe_ix (xe_ix (xv 6) xe_int (itW 1 rfl rfl)) (xv 10) (itL (f := D.s) (0 + k) (by omega) [] (by omega))) xa_nil)) (by first | omega | (simp; done) | (simp; omega) | assumption)), by rfl⟩))) ?_
  refine xss_cons (xs_setLc 8 (own := [("_law_k", 10)]) lc_ rfl rfl (fun _ => rfl) (xi_range F.n_range (xe_len F.n_len (xv 5) (by first | exact LenD.l _ | exact LenD.t _ | exact LenD.q _ | exact LenD.s _ (by first | omega | (simp; done) | (simp; omega) | assumption))) (by first | omega | (simp; done) | (simp; omega) | assumption)) (xg1 10 pt_) (by first | (simp [rangeD]; omega) | (simp; omega) | (simp; done)) (comp_map (g := fun k : Nat => .l [.s (b.getD k default).1, .s (L'.getD (a.length + k) [])]) (fun k hm => have hk : k < b.length := (by simpa using List.mem_range.mp hm); ⟨_, _, putn 10, (xe_lst (xa_cons (xe_ix (xe_ix (xv 5) (xv 10) (itL (f := pairL) k rfl default hk)) xe_int (itW 0 rfl rfl)) (xa_cons (xe_ix (xe_ix (xv 6) xe_int (itW 1 rfl rfl)) (xe_plus (xe_len F.n_len (xv 4) (by first | exact LenD.l _ | exact LenD.t _ | exact LenD.q _ | exact LenD.s _ (by first | omega | (simp; done) | (simp; omega) | assumption))) (xv 10) (by first | exact AddD.i _ _ | exact AddD.s _ _ (by first | omega | (simp; done) | (simp; omega) | assumption) | exact AddD.l _ _ (by first | omega | (simp; done) | (simp; omega) | assumption) | exact AddD.t _ _ (by first | omega | (simp; done) | (simp; omega) | assumption))) (itL (f := D.s) (a.length + k) (by simp) [] (by omega))) xa_nil)) (by first | omega | (simp; done) | (simp; omega) | assumption)), by rfl⟩))) ?_
  refine xss_retX ⟨_, (xe_lst (xa_cons (xe_ix (xv 6) xe_int (by first | exact itWT 0 rfl rfl | exact itW 0 rfl rfl | exact itS 0 rfl (by first | omega | (simp; done) | (simp; omega) | assumption) (by first | omega | (simp; done) | (simp; omega) | assumption) | exact itN 0 rfl (by first | omega | (simp; done) | (simp; omega) | assumption) | exact itI 0 rfl (by first | omega | (simp; done) | (simp; omega) | assumption) | exact itL 0 rfl default (by first | omega | (simp; done) | (simp; omega) | assumption) | exact itT 0 rfl default (by first | omega | (simp; done) | (simp; omega) | assumption))) (xa_cons (xv 7) (xa_cons (xv 8) xa_nil))) (by first | omega | (simp; done) | (simp; omega) | assumption)), ?_⟩
  simp [reF, pairL, Function.comp_def]
end
end Q8
namespace Q8
open PySem L2 PyProof.Rows
theorem marks_nd : marksT.Nodup := by decide
theorem marks_len : marksT.length = 27 := rfl
/-- a list of different things inside another one is no longer -/
theorem nd_le {α : Type} [DecidableEq α] : ∀ {a b : List α}, a.Nodup → (∀ x ∈ a, x ∈ b) → a.length ≤ b.length
  | [], _, _, _ => Nat.zero_le _
  | x :: a, b, h, hs => by
    have hx : x ∈ b := hs x List.mem_cons_self
    have h1 := List.nodup_cons.mp h
    have := nd_le (a := a) (b := b.erase x) h1.2 fun y hy => by
      refine (List.mem_erase_of_ne ?_).mpr (hs y (List.mem_cons_of_mem _ hy))
      intro e; subst e; exact h1.1 hy
    rw [List.length_erase_of_mem hx] at this
    have := List.length_pos_of_mem hx
    simp only [List.length_cons]
    omega
theorem free_of {L : List Tx} {k : Nat} (h : L.length ≤ 26) : Free L k := by
  apply Classical.byContradiction
  intro hn
  have : marksT.length ≤ (L.map fun x => at_ x k).length := nd_le marks_nd fun m hm => by
    apply Classical.byContradiction
    intro hz
    exact hn ⟨m, hm, hz⟩
  rw [marks_len, List.length_map] at this
  omega
end Q8
namespace Q8
open PySem L2 PyProof.Rows
theorem agree_iff {x y : Tx} : agreeF x y = true ↔ ∀ k, k < x.length → at_ x k = 45 ∨ at_ y k = 45 ∨ at_ x k = at_ y k := by
  unfold agreeF
  rw [List.all_eq_true]
  exact ⟨fun h k hk => by simpa using h k (List.mem_range.mpr hk), fun h k hk => by simpa using h k (List.mem_range.mp hk)⟩
theorem inside_iff {x y : Tx} : insideF x y = true ↔ ∀ k, k < x.length → at_ x k = 45 ∨ at_ y k ≠ 45 := by
  unfold insideF
  rw [List.all_eq_true]
  exact ⟨fun h k hk => by simpa using h k (List.mem_range.mpr hk), fun h k hk => by simpa using h k (List.mem_range.mp hk)⟩
theorem foldp_len : ∀ (L : List Tx) (u : Tx), (L.foldl pressF u).length = u.length
  | [], _ => rfl
  | y :: L, u => by rw [List.foldl_cons, foldp_len L, pressF_len]
theorem first_spec {L : List Tx} {left : Tx} {k : Nat} (h : firstF L left = some k) : k < L.length ∧ freesF (L.getD k []) left = true := by
  unfold firstF at h
  obtain ⟨q, hq, rfl⟩ := Option.map_eq_some_iff.mp h
  have h1 := List.find?_some hq
  have h2 := List.mem_of_find?_eq_some hq
  obtain ⟨i, hi, e⟩ := List.mem_iff_getElem.mp h2
  rw [List.getElem_zip] at e
  subst e
  simp at hi
  have hg : L.getD i [] = L[i] := by simp [List.getD_eq_getElem?_getD, hi]
  simp only [List.getElem_range]
  exact ⟨hi, by rw [hg]; exact h1⟩
/-- what the peeled stamps give back, pressed in the reversed order -/
theorem peel_back {n : Nat} {L : List Tx} (hL : ∀ y ∈ L, y.length = n) : ∀ (f : Nat) (left u : Tx), left.length = n → u.length = n → (∀ k, k < n → at_ (peelW L f left).2 k ≠ 45 → at_ u k = at_ (peelW L f left).2 k) → ∀ k, k < n → at_ left k ≠ 45 → at_ (((peelW L f left).1.reverse.map fun j => L.getD j []).foldl pressF u) k = at_ left k
  | 0, left, u, hl, hu, h => fun k hk hz => h k hk hz
  | f + 1, left, u, hl, hu, h => by
    intro k hk hz
    cases hf : firstF L left with
    | none =>
      simp only [peelW, hf] at h ⊢
      exact h k hk hz
    | some j =>
      obtain ⟨hj, hj2⟩ := first_spec hf
      simp only [peelW, hf] at h ⊢
      have hy : (L.getD j []).length = n := hL _ (getD_mem' hj)
      rw [List.reverse_cons, List.map_append, List.foldl_append]
      simp only [List.map_cons, List.map_nil, List.foldl_cons, List.foldl_nil]
      have ih := peel_back hL f (freedF left (L.getD j [])) u (by rw [freedF_len, hl]) hu h k hk
      rw [at_press (by rw [foldp_len, hu]; exact hk)]
      simp only [freesF, Bool.and_eq_true] at hj2
      have ha := agree_iff.mp hj2.1 k (by rw [hy]; exact hk)
      by_cases hb : at_ (L.getD j []) k = 45
      · rw [if_pos hb]
        have e : at_ (freedF left (L.getD j [])) k = at_ left k := by rw [at_freed (by rw [hl]; exact hk), if_pos hb]
        rw [e] at ih
        exact ih hz
      · rw [if_neg hb]
        rcases ha with z | z | z
        · exact absurd z hb
        · exact absurd z hz
        · exact z
end Q8
namespace Q8
open PySem L2 PyProof.Rows
theorem nd_inj : ∀ {st : Sm}, (namesT st).Nodup → ∀ {q r : Tx × Tx}, q ∈ st → r ∈ st → q.1 = r.1 → q = r
  | [], _, _, _, h, _, _ => by cases h
  | s :: st, hn, q, r, hq, hr, e => by
    have hn' := List.nodup_cons.mp (show (s.1 :: namesT st).Nodup from hn)
    rcases List.mem_cons.mp hq with a | a <;> rcases List.mem_cons.mp hr with b | b
    · rw [a, b]
    · subst a; exact absurd (e ▸ List.mem_map.mpr ⟨r, b, rfl⟩) hn'.1
    · subst b; exact absurd (e ▸ List.mem_map.mpr ⟨q, a, rfl⟩) hn'.1
    · exact nd_inj hn'.2 a b e
theorem look_of {st : Sm} (hn : (namesT st).Nodup) {q : Tx × Tx} (h : q ∈ st) : lookL st q.1 = q.2 := by
  obtain ⟨_, r, hr, e1, e2⟩ := look_mem (st := st) (x := q.1) (List.mem_map.mpr ⟨q, h, rfl⟩)
  rw [← e2, nd_inj hn hr h e1]
theorem pw_few (L : List Tx) : ∀ (f : Nat) (x : Tx), (peelW L f x).1.length ≤ f
  | 0, _ => Nat.le_refl _
  | f + 1, x => by
    cases h : firstF L x with
    | none => simp [peelW, h]
    | some j => have := pw_few L f (freedF x (L.getD j [])); simp only [peelW, h, List.length_cons]; omega
theorem pw_lt (L : List Tx) : ∀ (f : Nat) (x : Tx), ∀ k ∈ (peelW L f x).1, k < L.length
  | 0, _ => by simp [peelW]
  | f + 1, x => by
    cases h : firstF L x with
    | none => simp [peelW, h]
    | some j =>
      intro k hk
      simp only [peelW, h, List.mem_cons] at hk
      rcases hk with z | z
      · rw [z]; exact (first_spec h).1
      · exact pw_lt L f _ k z
theorem fold_at {k : Nat} : ∀ (L : List Tx) (u : Tx), k < u.length → (∀ y ∈ L, at_ y k = 45) → at_ (L.foldl pressF u) k = at_ u k
  | [], _, _, _ => rfl
  | y :: L, u, hk, h => by
    rw [List.foldl_cons, fold_at L _ (by rw [pressF_len]; exact hk) (fun z hz => h z (List.mem_cons_of_mem _ hz)), at_press hk, if_pos (h y List.mem_cons_self)]
theorem pw_len {n : Nat} (L : List Tx) : ∀ (f : Nat) (x : Tx), x.length = n → (peelW L f x).2.length = n
  | 0, _, h => h
  | f + 1, x, h => by
    cases e : firstF L x with
    | none => simpa [peelW, e] using h
    | some j => simpa [peelW, e] using pw_len L f _ (by rw [freedF_len, h])
theorem row_ok {n : Nat} {mk : Sm} {x : Tx} {l : List Tx} (hs : OkS n mk) (hx : x.length = n) (h : (madeF mk x).1 = some l) : RowOk n mk l x := by
  unfold madeF at h
  simp only at h
  split at h
  case isFalse => cases h
  case isTrue hc =>
    simp only [Option.some.injEq] at h
    subst h
    have hI : ∀ q ∈ innerS mk x, q ∈ mk ∧ insideF q.2 x = true := fun q hq => List.mem_filter.mp hq
    have hlt := pw_lt (layT (innerS mk x)) (x.length + 1) x
    have hlen : (layT (innerS mk x)).length = (innerS mk x).length := by simp [layT]
    have hl : ∀ y ∈ layT (innerS mk x), y.length = n := fun y hy => by
      obtain ⟨q, hq, rfl⟩ := List.mem_map.mp hy
      exact (hs.lay q (hI q hq).1).len
    have hlook : ∀ j, j < (innerS mk x).length → lookL mk ((namesT (innerS mk x)).getD j []) = (layT (innerS mk x)).getD j [] := fun j hj => by
      have h1 : (namesT (innerS mk x)).getD j [] = (innerS mk x)[j].1 := by simp [namesT, List.getD_eq_getElem?_getD, hj]
      have h2 : (layT (innerS mk x)).getD j [] = (innerS mk x)[j].2 := by simp [layT, List.getD_eq_getElem?_getD, hj]
      rw [h1, h2]
      exact look_of hs.nd (hI _ (List.getElem_mem hj)).1
    have hin : ∀ j ∈ (peelF (layT (innerS mk x)) x).1, j < (innerS mk x).length := fun j hj => by rw [← hlen]; exact hlt j hj
    refine ⟨?_, fun y hy => ?_, ?_⟩
    · have := pw_few (layT (innerS mk x)) (x.length + 1) x
      have := hs.hi
      simp only [peelS, List.length_reverse, List.length_map, peelF]
      omega
    · simp only [peelS, List.mem_reverse, List.mem_map] at hy
      obtain ⟨j, hj, rfl⟩ := hy
      have hj' := hin j hj
      have h1 : (namesT (innerS mk x)).getD j [] = (innerS mk x)[j].1 := by simp [namesT, List.getD_eq_getElem?_getD, hj']
      rw [h1]
      exact List.mem_map.mpr ⟨_, (hI _ (List.getElem_mem hj')).1, rfl⟩
    · have e : (peelS (innerS mk x) x).1.reverse.map (lookL mk) = (peelF (layT (innerS mk x)) x).1.reverse.map fun j => (layT (innerS mk x)).getD j [] := by
        simp only [peelS]
        rw [← List.map_reverse, List.map_map]
        exact List.map_congr_left fun j hj => hlook j (hin j (List.mem_reverse.mp hj))
      rw [e]
      unfold netF
      refine tx_ext (by rw [foldp_len, blank_len, hx]) fun k hk => ?_
      rw [foldp_len, blank_len] at hk
      by_cases hz : at_ x k = 45
      · rw [fold_at _ _ (by rw [blank_len]; exact hk), at_blank hk, hz]
        intro y hy
        obtain ⟨j, hj, rfl⟩ := List.mem_map.mp hy
        have hm : (layT (innerS mk x)).getD j [] ∈ layT (innerS mk x) := getD_mem' (by rw [hlen]; exact hin j (List.mem_reverse.mp hj))
        have hyl := hl _ hm
        obtain ⟨q, hq, eq⟩ := List.mem_map.mp hm
        rw [← eq] at hyl ⊢
        rcases inside_iff.mp (hI q hq).2 k (by rw [hyl]; exact hk) with z | z
        · exact z
        · exact absurd hz z
      · refine peel_back hl (x.length + 1) x (blank n) hx (blank_len n) (fun i hi hne => ?_) k hk hz
        have : i ∈ cellsF (peelS (innerS mk x) x).2 := by
          refine List.mem_filter.mpr ⟨List.mem_range.mpr ?_, decide_eq_true hne⟩
          show i < (peelW (layT (innerS mk x)) (x.length + 1) x).2.length
          rw [pw_len _ _ _ hx]; exact hi
        rw [hc] at this
        cases this
end Q8
namespace Q8
open PySem L2 PyProof.Rows
theorem rows_ok {n : Nat} {mk st : Sm} (hm : OkS n mk) (hs : OkS n st) : RowsOk n mk st (rowsF mk st) := by
  refine ⟨by simp [rowsF, layT], fun k hk l hl => ?_⟩
  have e1 : (rowsF mk st).getD k none = (madeF mk st[k].2).1 := by simp [rowsF, layT, List.getD_eq_getElem?_getD, hk]
  have e2 : st.getD k default = st[k] := by simp [List.getD_eq_getElem?_getD, hk]
  rw [e1] at hl
  rw [e2]
  exact row_ok hm (hs.lay _ (List.getElem_mem hk)).len hl
end Q8
namespace Q8
open PySem L2 PyProof.Rows
theorem marksN_le (x : Tx) : marksN x ≤ x.length := by
  unfold marksN cellsF
  exact Nat.le_trans (List.length_filter_le _ _) (by simp)
/-- where a stamp frees a mark, there is a cell -/
theorem freed_ne {n : Nat} {x y : Tx} (hx : x.length = n) (h : freedF x y ≠ x) : ∃ k, k < n ∧ at_ y k ≠ 45 ∧ at_ x k ≠ 45 := by
  apply Classical.byContradiction
  intro hn
  refine h (tx_ext (freedF_len _ _) fun k hk => ?_)
  rw [freedF_len] at hk
  rw [at_freed hk]
  split
  · rfl
  · next hy =>
    apply Classical.byContradiction
    intro hz
    exact hn ⟨k, by omega, hy, fun e => hz (by rw [e])⟩
theorem freed_of {x y : Tx} {k : Nat} (hk : k < x.length) (hy : at_ y k ≠ 45) (hx : at_ x k ≠ 45) : freedF x y ≠ x := fun e => by
  have := at_freed (u := x) (o := y) hk
  rw [e, if_neg hy] at this
  exact hx this
end Q8
namespace Q8
open PySem L2 PyProof.Rows
/-- a peel that had time enough is finished -/
theorem peel_fin {L : List Tx} : ∀ (f : Nat) (x : Tx), marksN x ≤ f → ∀ y ∈ L, freesF y (peelW L f x).2 = false
  | 0, x, h => by
    cases e : firstF L x with
    | none => exact firstF_none e
    | some k => have := marks_lt (firstF_some e).2; omega
  | f + 1, x, h => by
    cases e : firstF L x with
    | none => simpa [peelW, e] using firstF_none e
    | some k =>
      have := marks_lt (firstF_some e).2
      have ih := peel_fin (L := L) f (freedF x (L.getD k [])) (by omega)
      simpa only [peelW, e] using ih
/-- what is left lies in what was -/
theorem rest_sub {L : List Tx} : ∀ (f : Nat) (x : Tx) (k : Nat), k < x.length → at_ (peelW L f x).2 k = 45 ∨ at_ (peelW L f x).2 k = at_ x k
  | 0, x, k, _ => .inr rfl
  | f + 1, x, k, hk => by
    cases e : firstF L x with
    | none => exact .inr (by simp [peelW, e])
    | some j =>
      simp only [peelW, e]
      rcases rest_sub (L := L) f (freedF x (L.getD j [])) k (by rw [freedF_len]; exact hk) with z | z
      · exact .inl z
      · rw [z, at_freed hk]
        split
        · exact .inr rfl
        · exact .inl rfl
/-- a finished sheet is not touched by a stamp that agrees with it -/
theorem fin_off {n : Nat} {R y : Tx} (hR : R.length = n) (hy : y.length = n) (hfin : freesF y R = false) (ha : ∀ k, k < n → at_ R k ≠ 45 → at_ y k = 45 ∨ at_ y k = at_ R k) : ∀ k, k < n → at_ R k ≠ 45 → at_ y k = 45 := by
  intro k hk hz
  apply Classical.byContradiction
  intro hne
  have h1 : agreeF y R = true := agree_iff.mpr fun i hi => by
    by_cases a : at_ R i = 45
    · exact .inr (.inl a)
    · rcases ha i (by omega) a with z | z
      · exact .inl z
      · exact .inr (.inr z)
  have h2 : freedF R y ≠ R := freed_of (k := k) (by omega) hne hz
  simp [freesF, h1, h2] at hfin
/-- a finished sheet inside another one stays inside what is left of that -/
theorem rest_in {n : Nat} {L M : List Tx} {R : Tx} (hL : ∀ y ∈ L, y.length = n) (hR : R.length = n) (hfin : ∀ y ∈ L, freesF y R = false) : ∀ (f : Nat) (left : Tx), left.length = n → (∀ k, k < n → at_ R k = 45 ∨ at_ R k = at_ left k) → (∀ j ∈ (peelW M f left).1, M.getD j [] ∈ L) → ∀ k, k < n → at_ R k = 45 ∨ at_ R k = at_ (peelW M f left).2 k
  | 0, left, _, h, _ => h
  | f + 1, left, hl, h, hj => by
    cases e : firstF M left with
    | none => simpa [peelW, e] using h
    | some j =>
      simp only [peelW, e] at hj ⊢
      have hy := hj j List.mem_cons_self
      have hyl := hL _ hy
      have hf := (firstF_some e).2
      simp only [freesF, Bool.and_eq_true] at hf
      have off := fin_off hR hyl (hfin _ hy) fun k hk hz => by
        rcases agree_iff.mp hf.1 k (by omega) with a | a | a
        · exact .inl a
        · rcases h k hk with b | b
          · exact absurd b hz
          · exact absurd (b.trans a) hz
        · rcases h k hk with b | b
          · exact absurd b hz
          · exact .inr (a.trans b.symm)
      refine rest_in hL hR hfin f _ (by rw [freedF_len, hl]) (fun k hk => ?_) (fun i hi => hj i (List.mem_cons_of_mem _ hi))
      by_cases hz : at_ R k = 45
      · exact .inl hz
      · rw [at_freed (by omega), if_pos (off k hk hz)]
        exact h k hk
/-- strange marks stay, and no stamp that is peeled covers them -/
theorem odd_in {n : Nat} {M : List Tx} {O : Nat → Prop} (hM : ∀ y ∈ M, y.length = n) : ∀ (f : Nat) (left : Tx), left.length = n → (∀ k, k < n → O k → at_ left k ≠ 45 ∧ ∀ y ∈ M, at_ y k ≠ at_ left k) → (∀ j ∈ (peelW M f left).1, ∀ k, k < n → O k → at_ (M.getD j []) k = 45) ∧ ∀ k, k < n → O k → at_ (peelW M f left).2 k = at_ left k
  | 0, left, _, h => ⟨by simp [peelW], fun _ _ _ => rfl⟩
  | f + 1, left, hl, h => by
    cases e : firstF M left with
    | none => simp [peelW, e]
    | some j =>
      simp only [peelW, e]
      obtain ⟨hj, hf⟩ := firstF_some e
      have hm : M.getD j [] ∈ M := getD_mem' hj
      have hyl := hM _ hm
      simp only [freesF, Bool.and_eq_true] at hf
      have off : ∀ k, k < n → O k → at_ (M.getD j []) k = 45 := fun k hk ho => by
        rcases agree_iff.mp hf.1 k (by omega) with a | a | a
        · exact a
        · exact absurd a (h k hk ho).1
        · exact absurd a ((h k hk ho).2 _ hm)
      have keep : ∀ k, k < n → O k → at_ (freedF left (M.getD j [])) k = at_ left k := fun k hk ho => by
        rw [at_freed (by omega), if_pos (off k hk ho)]
      obtain ⟨a, b⟩ := odd_in hM f (freedF left (M.getD j [])) (by rw [freedF_len, hl]) (fun k hk ho => by rw [keep k hk ho]; exact h k hk ho)
      refine ⟨fun i hi => ?_, fun k hk ho => by rw [b k hk ho, keep k hk ho]⟩
      rcases List.mem_cons.mp hi with z | z
      · rw [z]; exact off
      · exact a i z
end Q8
namespace Q8
open PySem L2 PyProof.Rows
/-! ### the strange sheet -/
/-- a sheet whose marks stand nowhere in the layers -/
structure Odd (n : Nat) (Y : Tx) (L : List Tx) : Prop where
  len : Y.length = n
  ink : ∀ k, k < n → at_ Y k ≠ 45
  no : ∀ x ∈ L, ∀ k, k < n → at_ x k ≠ at_ Y k
theorem strange_odd {n : Nat} {L : List Tx} (hf : ∀ k, k < n → Free L k) : Odd n (strangeF n L) L := by
  have key : ∀ k, k < n → at_ (strangeF n L) k ∈ marksT ∧ at_ (strangeF n L) k ∉ L.map fun x => at_ x k := fun k hk => by
    unfold strangeF
    rw [at_tab hk]
    exact strangeM_mem (hf k hk)
  refine ⟨tab_len _ _, fun k hk z => no45 (z ▸ (key k hk).1), fun x hx k hk z => (key k hk).2 ?_⟩
  rw [← z]
  exact List.mem_map.mpr ⟨x, hx, rfl⟩
theorem Odd.sub {n : Nat} {Y : Tx} {L M : List Tx} (h : Odd n Y L) (hs : ∀ x ∈ M, x ∈ L) : Odd n Y M := ⟨h.len, h.ink, fun x hx => h.no x (hs x hx)⟩
theorem lay_l {n : Nat} {st : Sm} (hs : OkS n st) : ∀ x ∈ layT st, x.length = n := lay_len hs
theorem inner_sub (st : Sm) (x : Tx) : ∀ y ∈ layT (innerS st x), y ∈ layT st ∧ insideF y x = true := fun y hy => by
  obtain ⟨q, hq, rfl⟩ := List.mem_map.mp hy
  obtain ⟨h1, h2⟩ := List.mem_filter.mp hq
  exact ⟨List.mem_map.mpr ⟨q, h1, rfl⟩, h2⟩
theorem inner_of {st : Sm} {x y : Tx} (h : y ∈ layT st) (hi : insideF y x = true) : y ∈ layT (innerS st x) := by
  obtain ⟨q, hq, rfl⟩ := List.mem_map.mp h
  exact List.mem_map.mpr ⟨q, List.mem_filter.mpr ⟨hq, hi⟩, rfl⟩
/-- what is left of x by the inner stamps -/
def restI (st : Sm) (x : Tx) : Tx := (peelS (innerS st x) x).2
theorem made_none {st : Sm} {x : Tx} (h : (madeF st x).1 = none) : cellsF (restI st x) ≠ [] ∧ (madeF st x).2 = cellsF (restI st x) := by
  unfold madeF at h ⊢
  simp only at h ⊢
  split at h
  · cases h
  · next hc => rw [if_neg hc]; exact ⟨hc, rfl⟩
theorem made_of {st : Sm} {x : Tx} (h : cellsF (restI st x) = []) : (madeF st x).1.isSome = true := by
  unfold madeF
  simp only
  rw [if_pos (show cellsF (peelS (innerS st x) x).2 = [] from h)]
  rfl
theorem rest_len {n : Nat} {st : Sm} {x : Tx} (hx : x.length = n) : (restI st x).length = n := pw_len _ _ _ hx
theorem rest_fin {st : Sm} {x : Tx} : ∀ y ∈ layT (innerS st x), freesF y (restI st x) = false := peel_fin _ _ (by have := marksN_le x; omega)
theorem restI_sub {st : Sm} {x : Tx} {k : Nat} (hk : k < x.length) : at_ (restI st x) k = 45 ∨ at_ (restI st x) k = at_ x k := rest_sub _ _ k hk
theorem cells_nil {x : Tx} (h : ∀ k, k < x.length → at_ x k = 45) : cellsF x = [] := by
  unfold cellsF
  rw [List.filter_eq_nil_iff]
  intro k hk
  simpa using h k (List.mem_range.mp hk)
theorem cells_iff {x : Tx} {k : Nat} : k ∈ cellsF x ↔ k < x.length ∧ at_ x k ≠ 45 := by simp [cellsF]
/-- where the whole stock's peel of a press on a strange sheet leaves that sheet's marks alone, the stamp is made -/
theorem made_by {n : Nat} {b : Sm} {x Y : Tx} (hb : OkS n b) (hx : x.length = n) (hY : Odd n Y (layT b)) (hxY : ∀ k, k < n → at_ x k ≠ at_ Y k) (h : agreeF Y (peelS b (pressF Y x)).2 = true) : (madeF b x).1.isSome = true := by
  have hM := lay_l hb
  have hPl : (pressF Y x).length = n := by rw [pressF_len, hY.len]
  have hP : ∀ k, k < n → at_ (pressF Y x) k = if at_ x k = 45 then at_ Y k else at_ x k := fun k hk => at_press (by rw [hY.len]; exact hk)
  have hR : ∀ k, k < n → at_ (peelS b (pressF Y x)).2 k = 45 ∨ at_ (peelS b (pressF Y x)).2 k = at_ (pressF Y x) k := fun k hk => rest_sub _ _ k (by rw [hPl]; exact hk)
  have hag := agree_iff.mp h
  have off : ∀ k, k < n → at_ x k ≠ 45 → at_ (peelS b (pressF Y x)).2 k = 45 := fun k hk hne => by
    rcases hR k hk with z | z
    · exact z
    · rw [hP k hk, if_neg hne] at z
      rcases hag k (by rw [hY.len]; exact hk) with w | w | w
      · exact absurd w (hY.ink k hk)
      · exact w
      · exact absurd (z.symm.trans w.symm) (hxY k hk)
  obtain ⟨odd1, _⟩ := odd_in (n := n) (M := layT b) (O := fun k => at_ x k = 45) hM ((pressF Y x).length + 1) (pressF Y x) hPl fun k hk ho => by
    rw [hP k hk, if_pos ho]
    exact ⟨hY.ink k hk, fun y hy => hY.no y hy k hk⟩
  have hj : ∀ j ∈ (peelW (layT b) ((pressF Y x).length + 1) (pressF Y x)).1, (layT b).getD j [] ∈ layT (innerS b x) := fun j hj => by
    have hm : (layT b).getD j [] ∈ layT b := getD_mem' (pw_lt _ _ _ j hj)
    refine inner_of hm (inside_iff.mpr fun k hk => ?_)
    rw [hM _ hm] at hk
    by_cases c : at_ x k = 45
    · exact .inl (odd1 j hj k hk c)
    · exact .inr c
  have hin := rest_in (n := n) (L := layT (innerS b x)) (M := layT b) (R := restI b x) (fun y hy => hM y (inner_sub b x y hy).1) (rest_len hx) rest_fin ((pressF Y x).length + 1) (pressF Y x) hPl (fun k hk => by
    rcases restI_sub (st := b) (x := x) (k := k) (by rw [hx]; exact hk) with z | z
    · exact .inl z
    · by_cases c : at_ x k = 45
      · exact .inl (z.trans c)
      · right
        rw [z, hP k hk, if_neg c]) hj
  refine made_of (cells_nil fun k hk => ?_)
  rw [rest_len hx] at hk
  rcases hin k hk with z | z
  · exact z
  · rcases restI_sub (st := b) (x := x) (k := k) (by rw [hx]; exact hk) with w | w
    · exact w
    · by_cases c : at_ x k = 45
      · exact w.trans c
      · exact z.trans (off k hk c)
/-! ### the missing names -/
theorem miss_some {st : Sm} {mk : Sm} {x : Tx} (h : missF st (rowsF mk st) = some x) : ∃ q ∈ st, q.1 = x ∧ (madeF mk q.2).1 = none := by
  unfold missF at h
  obtain ⟨p, hp, rfl⟩ := Option.map_eq_some_iff.mp h
  have h1 := List.find?_some hp
  have h2 := List.mem_of_find?_eq_some hp
  obtain ⟨i, hi, e⟩ := List.mem_iff_getElem.mp h2
  have hi2 : i < st.length := by simp [namesT, rowsF, layT] at hi; omega
  rw [List.getElem_zip] at e
  subst e
  refine ⟨st[i], List.getElem_mem hi2, by simp [namesT], ?_⟩
  have : (rowsF mk st)[i]'(by simp [rowsF, layT]; exact hi2) = (madeF mk st[i].2).1 := by simp [rowsF, layT]
  rw [← this]
  simpa using h1
theorem miss_none {st : Sm} {mk : Sm} (h : missF st (rowsF mk st) = none) : ∀ q ∈ st, (madeF mk q.2).1.isSome = true := by
  unfold missF at h
  have h := Option.map_eq_none_iff.mp h
  intro q hq
  obtain ⟨i, hi, rfl⟩ := List.mem_iff_getElem.mp hq
  have hz : i < ((namesT st).zip (rowsF mk st)).length := by simp [namesT, rowsF, layT]; omega
  have := List.find?_eq_none.mp h _ (List.getElem_mem hz)
  rw [List.getElem_zip] at this
  have e : (rowsF mk st)[i]'(by simp [rowsF, layT]; omega) = (madeF mk st[i].2).1 := by simp [rowsF, layT]
  simp only [e] at this
  cases hm : (madeF mk st[i].2).1 with
  | none => rw [hm] at this; simp at this
  | some l => rfl
theorem shown_ok {n : Nat} {a b : Sm} {Y : Tx} {sh : Option Tx} (ha : OkS n a) (hb : OkS n b) (hY : Odd n Y (layT a ++ layT b)) (hsh : (missA a b).isSome = true → sh = some Y) : ShownOk n a b (missA a b) sh := by
  intro x hx
  obtain ⟨q, hq, rfl, hn⟩ := miss_some hx
  have hl := look_of ha.nd hq
  refine ⟨List.mem_map.mpr ⟨q, hq, rfl⟩, Y, hsh (by rw [hx]; rfl), hY.len, ?_⟩
  rw [hl]
  cases hg : agreeF Y (peelS b (pressF Y q.2)).2 with
  | false => rfl
  | true =>
    have := made_by hb (ha.lay q hq).len (hY.sub fun z hz => List.mem_append_right _ hz) (fun k hk => hY.no q.2 (List.mem_append_left _ (List.mem_map.mpr ⟨q, hq, rfl⟩)) k hk) hg
    rw [hn] at this; cases this
theorem word_alive {a b : Sm} : wordC a b = aliveT ↔ missA a b = none ∧ missA b a = none := by
  unfold wordC
  cases h1 : missA a b <;> cases h2 : missA b a <;> simp [wordF, aliveT]
theorem sheet_some {n : Nat} {a b : Sm} (h : (missA a b).isSome = true ∨ (missA b a).isSome = true) : sheetC n a b = some (strangeF n (layT a ++ layT b)) := by
  unfold sheetC
  rw [if_neg]
  intro z
  obtain ⟨h1, h2⟩ := word_alive.mp z
  rw [h1, h2] at h
  simp at h
theorem shown_both {n : Nat} {a b : Sm} (ha : OkS n a) (hb : OkS n b) (hf : ∀ k, k < n → Free (layT a ++ layT b) k) : ShownOk n a b (missA a b) (sheetC n a b) ∧ ShownOk n b a (missA b a) (sheetC n a b) := by
  have ho := strange_odd hf
  exact ⟨shown_ok ha hb ho fun h => sheet_some (.inl h), shown_ok hb ha (ho.sub fun x hx => by simpa [or_comm] using hx) fun h => sheet_some (.inr h)⟩
/-! ### the cells of a refusal -/
theorem cells_ok {n : Nat} {mk : Sm} {x : Tx} (hm : OkS n mk) (hx : x.length = n) (h : (madeF mk x).1 = none) : CellsOk n mk x (madeF mk x).2 := by
  obtain ⟨h1, h2⟩ := made_none h
  rw [h2]
  have hl := rest_len (st := mk) hx
  have hc : ∀ k ∈ cellsF (restI mk x), k < n ∧ at_ (restI mk x) k ≠ 45 := fun k hk => by
    have := cells_iff.mp hk
    rw [hl] at this; exact this
  refine ⟨List.length_pos_iff.mpr h1, ?_, ?_, fun k hk => (hc k hk).1, fun k hk => ?_, fun y hy hk => ?_⟩
  · have : (cellsF (restI mk x)).length ≤ (restI mk x).length := by unfold cellsF; exact Nat.le_trans (List.length_filter_le _ _) (by simp)
    have := hm.hi
    omega
  · unfold cellsF
    exact List.Pairwise.filter _ List.pairwise_lt_range
  · rcases restI_sub (st := mk) (x := x) (k := k) (by rw [hx]; exact (hc k hk).1) with z | z
    · exact absurd z (hc k hk).2
    · rw [← z]; exact (hc k hk).2
  · obtain ⟨k, hk, hyk⟩ := hk
    apply Classical.byContradiction
    intro hno
    have hyl := lay_l hm y (inner_sub mk x y hy).1
    have := fin_off hl hyl (rest_fin y hy) (fun i hi hz => by
      by_cases c : at_ y i = 45
      · exact .inl c
      · right
        rcases restI_sub (st := mk) (x := x) (k := i) (by rw [hx]; exact hi) with w | w
        · exact absurd w hz
        · rw [w]
          apply Classical.byContradiction
          intro ne
          exact hno ⟨i, cells_iff.mpr ⟨by rw [hl]; exact hi, hz⟩, c, ne⟩) k (hc k hk).1 (hc k hk).2
    exact hyk this
theorem sgn_name {x : Tx} (h : OkN x) : Sgn x := fun c hc => by
  have h1 : ∀ c ∈ lettersT, c < 1114112 := by decide
  have h2 : ∀ c ∈ digitsT, c < 1114112 := by decide
  rcases h.signs c hc with z | z
  · exact h1 c z
  · exact h2 c z
theorem side_ok {n : Nat} {a b : Sm} (ha : OkS n a) (hb : OkS n b) : SideOk n b a (rowsF b a) (missA a b) (c1F a b) := by
  have hr := rows_ok hb ha
  have hrl := hr.1
  have getr : ∀ k (h : k < a.length), (rowsF b a)[k]'(by omega) = (madeF b a[k].2).1 := fun k h => by simp [rowsF, layT]
  refine ⟨hrl, fun q hq l hl => ?_, fun r hr' l hl => ?_, fun hm r hr' => ?_, fun x hx => ?_, ?_⟩
  · obtain ⟨i, hi, e⟩ := List.mem_iff_getElem.mp hq
    have hi2 : i < a.length := by simp [rowsF, layT] at hi; omega
    rw [List.getElem_zip] at e
    subst e
    simp only at hl ⊢
    rw [getr i hi2] at hl
    have e2 : (layT a)[i]'(by simp [layT]; exact hi2) = a[i].2 := by simp [layT]
    rw [e2]
    exact row_ok hb (ha.lay _ (List.getElem_mem hi2)).len hl
  · exact rows_few hr l (hl ▸ hr')
  · obtain ⟨i, hi, rfl⟩ := List.mem_iff_getElem.mp hr'
    have hi2 : i < a.length := by omega
    have := miss_none hm a[i] (List.getElem_mem hi2)
    rw [getr i hi2]
    cases hmd : (madeF b a[i].2).1 with
    | none => rw [hmd] at this; cases this
    | some l =>
      refine ⟨l, rfl, fun y hy => ?_⟩
      have hro := row_ok hb (ha.lay _ (List.getElem_mem hi2)).len hmd
      obtain ⟨q, hq, rfl⟩ := List.mem_map.mp (hro.mem y hy)
      exact sgn_name (hb.name q hq)
  · obtain ⟨q, hq, rfl, hn⟩ := miss_some hx
    have hl := look_of ha.nd hq
    refine ⟨List.mem_map.mpr ⟨q, hq, rfl⟩, ?_⟩
    have : c1F a b = (madeF b q.2).2 := by
      unfold c1F
      rw [hx]
      simp only [hl]
    rw [hl, this]
    exact cells_ok hb (ha.lay q hq).len hn
  · unfold c1F
    cases hm : missA a b with
    | none => simp
    | some x =>
      obtain ⟨q, hq, rfl, hn⟩ := miss_some hm
      have hl := look_of ha.nd hq
      simp only [hl]
      have := (cells_ok hb (ha.lay q hq).len hn).few
      omega
theorem sheet_strange {n : Nat} {a b : Sm} (hf : ∀ k, k < n → Free (layT a ++ layT b) k) : wordC a b ≠ aliveT → ∃ y, sheetC n a b = some y ∧ y.length = n ∧ ∀ x ∈ layT a ++ layT b, ∀ k, k < n → at_ x k ≠ at_ y k := fun h => by
  have ho := strange_odd hf
  refine ⟨_, ?_, ho.len, ho.no⟩
  unfold sheetC
  rw [if_neg h]
end Q8
namespace Q8
open PySem L2 PyProof.Rows
theorem lay_lenU (st : Sm) : (layT st).length = st.length := by simp [layT]
/-! ### what rows of presses reach -/
/-- reached by so many presses or fewer -/
def RchN (st : Sm) (x : Tx) (t : Nat) (y : Tx) : Prop := ∃ L : List Tx, L.length ≤ t ∧ (∀ z ∈ L, z ∈ layT st) ∧ y = L.foldl pressF x
theorem RchN.mono {st : Sm} {x y : Tx} {s t : Nat} (h : RchN st x s y) (hs : s ≤ t) : RchN st x t y := by
  obtain ⟨L, h1, h2, h3⟩ := h
  exact ⟨L, by omega, h2, h3⟩
theorem RchN.push {st : Sm} {x y : Tx} {t : Nat} {q : Tx × Tx} (h : RchN st x t y) (hq : q ∈ st) : RchN st x (t + 1) (pressF y q.2) := by
  obtain ⟨L, h1, h2, rfl⟩ := h
  refine ⟨L ++ [q.2], by simp; omega, fun z hz => ?_, by rw [List.foldl_append]; rfl⟩
  rcases List.mem_append.mp hz with w | w
  · exact h2 z w
  · rw [List.mem_singleton.mp w]; exact List.mem_map.mpr ⟨q, hq, rfl⟩
theorem rch_zero {st : Sm} {x y : Tx} : RchN st x 0 y ↔ y = x := by
  constructor
  · rintro ⟨L, h1, _, rfl⟩
    have : L = [] := List.eq_nil_of_length_eq_zero (by omega)
    rw [this]; rfl
  · rintro rfl
    exact ⟨[], by simp, by simp, rfl⟩
/-- the last press of a longer row -/
theorem RchN.pop {st : Sm} {x y : Tx} {t : Nat} (h : RchN st x (t + 1) y) : RchN st x t y ∨ ∃ z, RchN st x t z ∧ ∃ q ∈ st, y = pressF z q.2 := by
  obtain ⟨L, h1, h2, rfl⟩ := h
  by_cases c : L.length ≤ t
  · exact .inl ⟨L, c, h2, rfl⟩
  · right
    have hne : L ≠ [] := fun z => by rw [z] at c; simp at c
    obtain ⟨M, s, rfl⟩ : ∃ M s, L = M ++ [s] := ⟨L.dropLast, L.getLast hne, (List.dropLast_concat_getLast hne).symm⟩
    obtain ⟨q, hq, e⟩ := List.mem_map.mp (h2 s (by simp))
    exact ⟨M.foldl pressF x, ⟨M, by simp at h1; omega, fun z hz => h2 z (List.mem_append_left _ hz), rfl⟩, q, hq, by rw [e, List.foldl_append]; rfl⟩
/-- level t: reached by t presses, not by fewer -/
theorem bfs_at {st : Sm} {x : Tx} {t : Nat} {k l : List Tx} (h : BfsAt st x t k l) : (∀ y, y ∈ k ↔ RchN st x t y) ∧ (∀ y, y ∈ l ↔ RchN st x t y ∧ ∀ s, s < t → ¬ RchN st x s y) ∧ l ≠ [] := by
  induction h with
  | zero =>
    refine ⟨fun y => by rw [rch_zero]; simp, fun y => by rw [rch_zero]; simp, by simp⟩
  | @succ t k l h hne ih =>
    obtain ⟨ih1, ih2, _⟩ := ih
    have key : ∀ y, (∃ z ∈ l, ∃ q ∈ st, y = pressF z q.2) → RchN st x (t + 1) y := by
      rintro y ⟨z, hz, q, hq, rfl⟩
      exact ((ih2 z).mp hz).1.push hq
    have back : ∀ y, RchN st x (t + 1) y → y ∈ k ∨ ∃ z ∈ l, ∃ q ∈ st, y = pressF z q.2 := fun y hy => by
      rcases hy.pop with z | ⟨z, hz, q, hq, e⟩
      · exact .inl ((ih1 y).mpr z)
      · by_cases c : z ∈ l
        · exact .inr ⟨z, c, q, hq, e⟩
        · left
          have : ∃ s, s < t ∧ RchN st x s z := by
            apply Classical.byContradiction
            intro hn
            exact c ((ih2 z).mpr ⟨hz, fun s hs hr => hn ⟨s, hs, hr⟩⟩)
          obtain ⟨s, hs, hr⟩ := this
          exact (ih1 y).mpr (e ▸ (hr.push hq).mono (by omega))
    refine ⟨fun y => ?_, fun y => ?_, hne⟩
    · rw [turnF_1]
      constructor
      · rintro (h | h)
        · exact ((ih1 y).mp h).mono (by omega)
        · exact key y h
      · exact back y
    · rw [turnF_2]
      constructor
      · rintro ⟨h1, h2⟩
        refine ⟨key y h2, fun s hs hr => h1 ((ih1 y).mpr (hr.mono (by omega)))⟩
      · rintro ⟨h1, h2⟩
        have hk : y ∉ k := fun z => h2 t (by omega) ((ih1 y).mp z)
        exact ⟨hk, (back y h1).resolve_left hk⟩
/-! ### a stamp pressed again -/
theorem fold_same {n : Nat} {s : Tx} : ∀ (B : List Tx) (u v : Tx), u.length = n → v.length = n → s ∈ B → (∀ k, k < n → at_ s k = 45 → at_ u k = at_ v k) → B.foldl pressF u = B.foldl pressF v
  | [], _, _, _, _, h, _ => by cases h
  | b :: B, u, v, hu, hv, h, hk => by
    rw [List.foldl_cons, List.foldl_cons]
    by_cases c : s = b
    · subst c
      have e : pressF u s = pressF v s := tx_ext (by rw [pressF_len, pressF_len, hu, hv]) fun k hk2 => by
        rw [pressF_len, hu] at hk2
        rw [at_press (by omega), at_press (by omega)]
        by_cases z : at_ s k = 45
        · rw [if_pos z, if_pos z]; exact hk k hk2 z
        · rw [if_neg z, if_neg z]
      rw [e]
    · have hB : s ∈ B := (List.mem_cons.mp h).resolve_left c
      refine fold_same B _ _ (by rw [pressF_len, hu]) (by rw [pressF_len, hv]) hB fun k hk2 z => ?_
      rw [at_press (by omega), at_press (by omega)]
      by_cases w : at_ b k = 45
      · rw [if_pos w, if_pos w]; exact hk k hk2 z
      · rw [if_neg w, if_neg w]
theorem fold_drop {s u : Tx} {B : List Tx} (h : s ∈ B) : (s :: B).foldl pressF u = B.foldl pressF u := by
  rw [List.foldl_cons]
  refine fold_same (n := u.length) B _ _ (pressF_len _ _) rfl h fun k hk z => ?_
  rw [at_press hk, if_pos z]
theorem not_nodup : ∀ {L : List Tx}, ¬ L.Nodup → ∃ A s B, L = A ++ s :: B ∧ s ∈ B
  | [], h => absurd List.nodup_nil h
  | x :: L, h => by
    by_cases c : x ∈ L
    · exact ⟨[], x, L, rfl, c⟩
    · have : ¬ L.Nodup := fun z => h (List.nodup_cons.mpr ⟨c, z⟩)
      obtain ⟨A, s, B, rfl, hs⟩ := not_nodup this
      exact ⟨x :: A, s, B, rfl, hs⟩
/-- more presses than stamps are never needed -/
theorem rch_short {st : Sm} {x y : Tx} {t : Nat} (ht : st.length < t) (h : RchN st x t y) : RchN st x (t - 1) y := by
  obtain ⟨L, h1, h2, rfl⟩ := h
  by_cases c : L.length ≤ t - 1
  · exact ⟨L, c, h2, rfl⟩
  · have : ¬ L.Nodup := fun z => by
      have := nd_le z h2
      rw [lay_lenU] at this
      omega
    obtain ⟨A, s, B, rfl, hs⟩ := not_nodup this
    refine ⟨A ++ B, by simp at h1 ⊢; omega, fun z hz => h2 z ?_, ?_⟩
    · rcases List.mem_append.mp hz with w | w
      · exact List.mem_append_left _ w
      · exact List.mem_append_right _ (List.mem_cons_of_mem _ w)
    · rw [List.foldl_append, List.foldl_append, fold_drop hs]
theorem bfs_depth {st : Sm} {x : Tx} {t : Nat} {k l : List Tx} (h : BfsAt st x t k l) : t ≤ st.length := by
  obtain ⟨_, h2, h3⟩ := bfs_at h
  apply Classical.byContradiction
  intro hn
  obtain ⟨y, hy⟩ := List.exists_mem_of_ne_nil _ h3
  obtain ⟨h4, h5⟩ := (h2 y).mp hy
  exact h5 (t - 1) (by omega) (rch_short (by omega) h4)
theorem turn_len (st : Sm) : ∀ (l : List Tx) (s : List Tx × List Tx), (l.foldl (fun s x => rowT st x s) s).1.length ≤ s.1.length + l.length * st.length ∧ (l.foldl (fun s x => rowT st x s) s).2.length ≤ s.2.length + l.length * st.length
  | [], s => by simp
  | x :: l, s => by
    have h1 := rowT_len st x s
    have h2 := turn_len st l (rowT st x s)
    rw [List.foldl_cons, List.length_cons, Nat.succ_mul]
    omega
theorem bfs_len {st : Sm} {x : Tx} (hm : st.length ≤ 7) {t : Nat} {k l : List Tx} (h : BfsAt st x t k l) : l.length ≤ 7 ^ t ∧ k.length ≤ (t + 1) * 7 ^ t := by
  induction h with
  | zero => simp
  | @succ t k l h hne ih =>
    obtain ⟨i1, i2⟩ := ih
    have ht := turn_len st l (k, [])
    have e : l.length * st.length ≤ 7 ^ t * 7 := Nat.mul_le_mul i1 hm
    have e2 : 7 ^ (t + 1) = 7 ^ t * 7 := Nat.pow_succ 7 t
    have e3 : (t + 1 + 1) * 7 ^ (t + 1) = (t + 1) * (7 ^ t * 7) + 7 ^ t * 7 := by rw [e2, Nat.succ_mul (t + 1)]
    have e4 : (t + 1) * 7 ^ t ≤ (t + 1) * (7 ^ t * 7) := Nat.mul_le_mul_left _ (by omega)
    have h1 : (turnF st k l).1.length ≤ k.length + l.length * st.length := ht.1
    have h2 : (turnF st k l).2.length ≤ 0 + l.length * st.length := ht.2
    rw [e3, e2]
    omega
theorem bfs_ok {st : Sm} (hm : st.length ≤ 7) (x : Tx) : BfsOk st x := by
  intro t k l h
  obtain ⟨h1, h2⟩ := bfs_len hm h
  have ht := bfs_depth h
  have e : l.length * st.length ≤ 7 ^ t * 7 := Nat.mul_le_mul h1 hm
  have p : 7 ^ t ≤ 7 ^ 7 := Nat.pow_le_pow_right (by omega) (by omega)
  have q : (t + 1) * 7 ^ t ≤ 8 * 7 ^ 7 := Nat.mul_le_mul (by omega) p
  have : (7 : Nat) ^ 7 = 823543 := by decide
  omega
theorem bfs_few {st : Sm} {x : Tx} (hb : BfsOk st x) : ∀ (N t : Nat) (k l : List Tx), BfsAt st x t k l → (bfs st N k l).length < 16777216
  | 0, t, k, l, h => by
    have := hb t k l h
    show k.length < _
    omega
  | N + 1, t, k, l, h => by
    have h0 := hb t k l h
    have h1 : (turnF st k l).1.length ≤ k.length + l.length * st.length := (turn_len st l (k, [])).1
    show (if (turnF st k l).2 = [] then (turnF st k l).1 else bfs st N (turnF st k l).1 (turnF st k l).2).length < _
    by_cases c : (turnF st k l).2 = []
    · rw [if_pos c]; omega
    · rw [if_neg c]; exact bfs_few hb N _ _ _ (.succ h c)
theorem reach_few {st : Sm} (hm : st.length ≤ 7) (x : Tx) : (reachL st x).length < 16777216 := bfs_few (bfs_ok hm x) _ _ _ _ .zero
/-- reached at all -/
def Rch (st : Sm) (x y : Tx) : Prop := ∃ t, RchN st x t y
theorem bfs_mem {st : Sm} {x y : Tx} : ∀ (N t : Nat) (k l : List Tx), BfsAt st x t k l → st.length < N + t → (y ∈ bfs st N k l ↔ Rch st x y)
  | 0, t, k, l, h, hN => by have := bfs_depth h; omega
  | N + 1, t, k, l, h, hN => by
    show y ∈ (if (turnF st k l).2 = [] then (turnF st k l).1 else bfs st N (turnF st k l).1 (turnF st k l).2) ↔ _
    by_cases c : (turnF st k l).2 = []
    · rw [if_pos c]
      obtain ⟨ih1, ih2, _⟩ := bfs_at h
      have stay : ∀ y, RchN st x (t + 1) y → RchN st x t y := fun y hy => by
        rcases hy.pop with z | ⟨z, hz, q, hq, e⟩
        · exact z
        · apply Classical.byContradiction
          intro hn
          by_cases cz : z ∈ l
          · have : y ∈ (turnF st k l).2 := turnF_2.mpr ⟨fun w => hn ((ih1 y).mp w), z, cz, q, hq, e⟩
            rw [c] at this; cases this
          · have : ∃ s, s < t ∧ RchN st x s z := by
              apply Classical.byContradiction
              intro hn2
              exact cz ((ih2 z).mpr ⟨hz, fun s hs hr => hn2 ⟨s, hs, hr⟩⟩)
            obtain ⟨s, hs, hr⟩ := this
            exact hn (e ▸ (hr.push hq).mono (by omega))
      have all : ∀ (u : Nat) (y : Tx), RchN st x u y → RchN st x t y := by
        intro u
        induction u with
        | zero => exact fun y hy => hy.mono (by omega)
        | succ u ih =>
          intro y hy
          rcases hy.pop with z | ⟨z, hz, q, hq, e⟩
          · exact ih y z
          · exact stay y (e ▸ (ih z hz).push hq)
      rw [turnF_1]
      constructor
      · rintro (z | ⟨z, hz, q, hq, e⟩)
        · exact ⟨t, (ih1 y).mp z⟩
        · exact ⟨t + 1, e ▸ ((ih2 z).mp hz).1.push hq⟩
      · rintro ⟨u, hu⟩
        exact .inl ((ih1 y).mpr (all u y hu))
    · rw [if_neg c]
      exact bfs_mem N (t + 1) _ _ (.succ h c) (by omega)
theorem reach_mem {st : Sm} (hm : st.length ≤ 7) {x y : Tx} : y ∈ reachL st x ↔ Rch st x y := bfs_mem _ _ _ _ .zero (by omega)
end Q8
namespace Q8
open PySem L2 PyProof.Rows
theorem press_assoc {n : Nat} {u w y : Tx} (hu : u.length = n) (hw : w.length = n) : pressF (pressF u w) y = pressF u (pressF w y) := by
  refine tx_ext (by rw [pressF_len, pressF_len, pressF_len]) fun k hk => ?_
  rw [pressF_len, pressF_len, hu] at hk
  rw [at_press (by rw [pressF_len]; omega), at_press (by omega), at_press (u := u) (by omega), at_press (by omega)]
  by_cases c : at_ y k = 45
  · rw [if_pos c, if_pos c]
  · rw [if_neg c, if_neg c, if_neg c]
theorem press_fold {n : Nat} {u : Tx} (hu : u.length = n) : ∀ (L : List Tx) (w : Tx), w.length = n → L.foldl pressF (pressF u w) = pressF u (L.foldl pressF w)
  | [], _, _ => rfl
  | y :: L, w, hw => by
    rw [List.foldl_cons, List.foldl_cons, press_assoc hu hw, press_fold hu L _ (by rw [pressF_len, hw])]
theorem press_blank {n : Nat} {u : Tx} (hu : u.length = n) : pressF u (blank n) = u := by
  refine tx_ext (pressF_len _ _) fun k hk => ?_
  rw [pressF_len] at hk
  rw [at_press hk, if_pos (at_blank (by omega))]
/-- a row does to every sheet what its net does -/
theorem press_net {n : Nat} {u : Tx} {L : List Tx} (hu : u.length = n) : L.foldl pressF u = pressF u (netF n L) := by
  unfold netF
  rw [← press_fold hu L (blank n) (blank_len n), press_blank hu]
theorem Rch.trans {st : Sm} {x y z : Tx} (h : Rch st x y) (h2 : Rch st y z) : Rch st x z := by
  obtain ⟨t, L, h1, h3, rfl⟩ := h
  obtain ⟨u, M, h4, h5, rfl⟩ := h2
  refine ⟨t + u, L ++ M, by simp; omega, fun w hw => ?_, by rw [List.foldl_append]⟩
  rcases List.mem_append.mp hw with a | a
  · exact h3 w a
  · exact h5 w a
theorem Rch.refl (st : Sm) (x : Tx) : Rch st x x := ⟨0, rch_zero.mpr rfl⟩
theorem rch_row {n : Nat} {b : Sm} {l : List Tx} {x u : Tx} (h : RowOk n b l x) (hu : u.length = n) : Rch b u (pressF u x) := by
  refine ⟨(l.map (lookL b)).length, l.map (lookL b), Nat.le_refl _, fun z hz => ?_, by rw [press_net hu, h.net]⟩
  obtain ⟨y, hy, rfl⟩ := List.mem_map.mp hz
  obtain ⟨_, q, hq, e1, e2⟩ := look_mem (h.mem y hy)
  rw [← e2]
  exact List.mem_map.mpr ⟨q, hq, rfl⟩
theorem rch_made {n : Nat} {b : Sm} {x u : Tx} (hb : OkS n b) (hx : x.length = n) (hu : u.length = n) (h : (madeF b x).1.isSome = true) : Rch b u (pressF u x) := by
  cases hm : (madeF b x).1 with
  | none => rw [hm] at h; cases h
  | some l => exact rch_row (row_ok hb hx hm) hu
/-- what a stock makes, a stock that makes its stamps makes -/
theorem rch_all {n : Nat} {a b : Sm} (ha : OkS n a) (hb : OkS n b) (h : ∀ q ∈ a, (madeF b q.2).1.isSome = true) : ∀ (L : List Tx) (u : Tx), u.length = n → (∀ z ∈ L, z ∈ layT a) → Rch b u (L.foldl pressF u)
  | [], u, _, _ => Rch.refl b u
  | y :: L, u, hu, hL => by
    obtain ⟨q, hq, e⟩ := List.mem_map.mp (hL y List.mem_cons_self)
    have h1 : Rch b u (pressF u y) := by rw [← e]; exact rch_made hb (ha.lay q hq).len hu (h q hq)
    rw [List.foldl_cons]
    exact h1.trans (rch_all ha hb h L _ (by rw [pressF_len, hu]) fun z hz => hL z (List.mem_cons_of_mem _ hz))
/-- a finished sheet in a reached one lies in the first one -/
theorem fold_agree {n : Nat} {M : List Tx} {R Y : Tx} (hM : ∀ y ∈ M, y.length = n) (hR : R.length = n) (hY : Y.length = n) (hfin : ∀ y ∈ M, freesF y R = false) : ∀ (N : Nat) (L : List Tx), L.length = N → (∀ z ∈ L, z ∈ M) → (∀ k, k < n → at_ R k = 45 ∨ at_ R k = at_ (L.foldl pressF Y) k) → ∀ k, k < n → at_ R k = 45 ∨ at_ R k = at_ Y k
  | 0, L, hl, _, h => by
    have : L = [] := List.eq_nil_of_length_eq_zero hl
    rw [this] at h
    exact h
  | N + 1, L, hl, hs, h => by
    have hne : L ≠ [] := fun z => by rw [z] at hl; cases hl
    obtain ⟨A, s, rfl⟩ : ∃ A s, L = A ++ [s] := ⟨L.dropLast, L.getLast hne, (List.dropLast_concat_getLast hne).symm⟩
    have hsM : s ∈ M := hs s (by simp)
    have hA : (A.foldl pressF Y).length = n := by rw [foldp_len, hY]
    have e : ∀ k, k < n → at_ ((A ++ [s]).foldl pressF Y) k = if at_ s k = 45 then at_ (A.foldl pressF Y) k else at_ s k := fun k hk => by
      rw [List.foldl_append, List.foldl_cons, List.foldl_nil, at_press (by omega)]
    have off := fin_off hR (hM s hsM) (hfin s hsM) fun k hk hz => by
      rcases h k hk with w | w
      · exact absurd w hz
      · rw [e k hk] at w
        by_cases c : at_ s k = 45
        · exact .inl c
        · rw [if_neg c] at w; exact .inr w.symm
    refine fold_agree hM hR hY hfin N A (by simpa using hl) (fun z hz => hs z (List.mem_append_left _ hz)) fun k hk => ?_
    by_cases hz : at_ R k = 45
    · exact .inl hz
    · rcases h k hk with w | w
      · exact .inl w
      · rw [e k hk, if_pos (off k hk hz)] at w
        exact .inr w
/-- on a strange sheet a stamp's press is reached exactly if the stamp is made -/
theorem rch_iff {n : Nat} {b : Sm} {x Y : Tx} (hb : OkS n b) (hx : x.length = n) (hY : Odd n Y (layT b)) (hxY : ∀ k, k < n → at_ x k ≠ at_ Y k) : (madeF b x).1.isSome = true ↔ Rch b Y (pressF Y x) := by
  refine ⟨rch_made hb hx hY.len, fun ⟨t, L, _, hL, e⟩ => made_by hb hx hY hxY (agree_iff.mpr fun k hk => ?_)⟩
  rw [hY.len] at hk
  have hPl : (pressF Y x).length = n := by rw [pressF_len, hY.len]
  have hRl : (peelS b (pressF Y x)).2.length = n := pw_len _ _ _ hPl
  have := fold_agree (R := (peelS b (pressF Y x)).2) (lay_l hb) hRl hY.len (fun y hy => peel_fin (L := layT b) _ _ (by have := marksN_le (pressF Y x); omega) y hy) L.length L rfl hL (fun k hk => by
    rw [← e]
    exact rest_sub (L := layT b) _ _ k (by rw [hPl]; exact hk)) k hk
  rcases this with w | w
  · exact .inr (.inl w)
  · exact .inr (.inr w.symm)
theorem less_false {n : Nat} {a b : Sm} {S : Tx} (ha : OkS n a) (hb : OkS n b) (fa : a.length ≤ 7) (fb : b.length ≤ 7) (hS : S.length = n) (h : missA a b = none) : lessF (reachL a S) (reachL b S) = false := by
  unfold lessF
  rw [List.any_eq_false]
  intro y hy
  obtain ⟨t, L, _, hL, rfl⟩ := (reach_mem fa).mp hy
  have := (reach_mem fb).mpr (rch_all ha hb (miss_none h) L S hS hL)
  simpa using this
theorem less_true {n : Nat} {a b : Sm} {Y : Tx} (ha : OkS n a) (hb : OkS n b) (fa : a.length ≤ 7) (fb : b.length ≤ 7) (hY : Odd n Y (layT a ++ layT b)) (h : (missA a b).isSome = true) : lessF (reachL a Y) (reachL b Y) = true := by
  obtain ⟨x, hx⟩ := Option.isSome_iff_exists.mp h
  obtain ⟨q, hq, rfl, hn⟩ := miss_some hx
  have hm : q.2 ∈ layT a := List.mem_map.mpr ⟨q, hq, rfl⟩
  unfold lessF
  rw [List.any_eq_true]
  refine ⟨pressF Y q.2, (reach_mem fa).mpr ⟨1, [q.2], by simp, by simpa using hm, rfl⟩, ?_⟩
  have : pressF Y q.2 ∉ reachL b Y := fun z => by
    have := (rch_iff hb (ha.lay q hq).len (hY.sub fun z hz => List.mem_append_right _ hz) fun k hk => hY.no q.2 (List.mem_append_left _ hm) k hk).mpr ((reach_mem fb).mp z)
    rw [hn] at this; cases this
  simpa using this
theorem less_eq {n : Nat} {a b : Sm} {Y : Tx} (ha : OkS n a) (hb : OkS n b) (fa : a.length ≤ 7) (fb : b.length ≤ 7) (hY : Odd n Y (layT a ++ layT b)) : lessF (reachL a Y) (reachL b Y) = (missA a b).isSome := by
  cases h : missA a b with
  | none => rw [less_false ha hb fa fb hY.len h]; rfl
  | some x => rw [less_true ha hb fa fb hY (by rw [h]; rfl)]; rfl
theorem rows_reach {n : Nat} {a b : Sm} {Y : Tx} (ha : OkS n a) (hb : OkS n b) (fb : b.length ≤ 7) (hY : Odd n Y (layT a ++ layT b)) : ∀ k, k < a.length → ((rowsF b a).getD k none).isSome = decide (pressF Y (a.getD k default).2 ∈ reachL b Y) := fun k hk => by
  have e1 : (rowsF b a).getD k none = (madeF b a[k].2).1 := by simp [rowsF, layT, List.getD_eq_getElem?_getD, hk]
  have e2 : a.getD k default = a[k] := by simp [List.getD_eq_getElem?_getD, hk]
  have hm : a[k].2 ∈ layT a := List.mem_map.mpr ⟨_, List.getElem_mem hk, rfl⟩
  rw [e1, e2, Bool.eq_iff_iff, decide_eq_true_eq, reach_mem fb]
  exact rch_iff hb (ha.lay _ (List.getElem_mem hk)).len (hY.sub fun z hz => List.mem_append_right _ hz) fun k hk => hY.no _ (List.mem_append_left _ hm) k hk
theorem fwd_ok {n : Nat} {a b : Sm} {S : Tx} (ha : OkS n a) (hb : OkS n b) (fa : a.length ≤ 7) (fb : b.length ≤ 7) (hf : ∀ k, k < n → Free (layT a ++ layT b) k) (hS : S.length = n) : FwdOk n a b (strangeF n (layT a ++ layT b)) S := by
  have hY := strange_odd hf
  have hY2 : Odd n (strangeF n (layT a ++ layT b)) (layT b ++ layT a) := hY.sub fun x hx => by simpa [or_comm] using hx
  refine ⟨bfs_ok fa _, bfs_ok fb _, bfs_ok fa _, bfs_ok fb _, reach_few fa _, reach_few fb _, reach_few fa _, reach_few fb _, ?_, rows_reach ha hb fb hY, rows_reach hb ha fa hY2, ?_⟩
  · rw [less_eq ha hb fa fb hY, less_eq hb ha fb fa hY2]; rfl
  · unfold wordC
    cases h1 : missA a b with
    | none =>
      have l1 := less_false ha hb fa fb hS h1
      rw [l1]
      cases h2 : missA b a with
      | none =>
        rw [less_false hb ha fb fa hS h2]
        exact .inr (.inl rfl)
      | some y =>
        cases lessF (reachL b S) (reachL a S)
        · exact .inr (.inl rfl)
        · exact .inr (.inr rfl)
    | some x =>
      cases h2 : missA b a with
      | none =>
        rw [less_false hb ha fb fa hS h2]
        cases lessF (reachL a S) (reachL b S)
        · exact .inr (.inl rfl)
        · exact .inr (.inr rfl)
      | some y => exact .inl rfl
end Q8
namespace Q8
open PySem L2 PyProof.Rows
abbrev headS : List Nat := [8, 7, 7, 16, 16, 3, 3, 60, 60, 60, 3, 6, 8, 25, 4]
def rotF (L : List Tx) (k : Nat) : List Tx := L.drop k ++ L.take k
def delF (L : List Tx) (k : Nat) : List Tx := L.take k ++ L.drop (k + 1)
theorem rot_mem {L : List Tx} {k : Nat} {x : Tx} (h : x ∈ rotF L k) : x ∈ L := by
  rcases List.mem_append.mp h with h | h
  · exact List.mem_of_mem_drop h
  · exact List.mem_of_mem_take h
theorem rot_len (L : List Tx) (k : Nat) : (rotF L k).length = L.length := by simp [rotF]; omega
theorem del_mem {L : List Tx} {k : Nat} {x : Tx} (h : x ∈ delF L k) : x ∈ L := by
  rcases List.mem_append.mp h with h | h
  · exact List.mem_of_mem_take h
  · exact List.mem_of_mem_drop h
theorem del_len (L : List Tx) (k : Nat) : (delF L k).length ≤ L.length := by simp [delF]; omega
def DerGo (W : Wd) (ns : List Int) (A : Int) (n : Nat) (m : Tx) (B : List Tx) (dg : List Nat) (j c : Nat) : Prop := ∀ L1 L2 : List Tx, L1.length ≤ c → L2.length ≤ c → (∀ x ∈ L1, OkM m n x) → (∀ x ∈ L2, OkM m n x) → ∃ (F1 F2 : List Tx) (d1 d2 : Nat), F1.length ≤ B.length + 3 ∧ F2.length ≤ B.length + 3 ∧ (∀ x ∈ F1, OkM m n x) ∧ (∀ x ∈ F2, OkM m n x) ∧ XSs (W.ga N__law_derived (defScope (top 84)) 4) ((defBody (top 84)).drop j) [.v (.q ns), .v (.i A), .v (.i (n : Int)), .v (.s m), .v (.l (B.map .s)), .v (.l (natsD dg)), .ol (L1.map .s), .ol (L2.map .s), .no, .no, .no, .no, .no] (.rt (.l [.i (n : Int), .s m, .l ((namedF F1 d1).map pairL), .l ((namedF F2 d2).map pairL)]))
section
variable {W : Wd} {ns : List Int} {A : Int} {n : Nat} {m : Tx} {B : List Tx} {dg : List Nat}
theorem der7 (F : Wo W) (hB : B.length ≤ 10) (hh : Dig headS dg) : DerGo W ns A n m B dg 7 (B.length + 3) := by
  intro L1 L2 l1 l2 k1 k2
  have hlen : dg.length = 15 := hh.len
  have h3 : dg.getD 3 0 < 16 := hh.lt 3 (by decide)
  have h4 : dg.getD 4 0 < 16 := hh.lt 4 (by decide)
  generalize ht : dg.getD 1 0 % max 1 L1.length = t
  generalize hu : dg.getD 2 0 % max 1 L2.length = u
  have hd2 : dg.getD ((3 : Int) + (if decide ((0 : Int) < ((dg.getD 4 0 : Nat) : Int) % 4) = true then 1 else 0)).toNat 0 < 16 := by
    split
    · exact h4
    · exact h3
  generalize hd : dg.getD ((3 : Int) + (if decide ((0 : Int) < ((dg.getD 4 0 : Nat) : Int) % 4) = true then 1 else 0)).toNat 0 = d at hd2
  refine ⟨rotF L1 t, rotF L2 u, dg.getD 3 0, d, by rw [rot_len]; omega, by rw [rot_len]; omega, fun x hx => k1 x (rot_mem hx), fun x hx => k2 x (rot_mem hx), ?_⟩
  refine XSs.weakL (env' := [.v (.q ns), .v (.i A), .v (.i (n : Int)), .v (.s m), .v (.l (B.map .s)), .v (.l (natsD dg)), .v (.l (L1.map .s)), .v (.l (L2.map .s)), .no, .no, .no, .no, .no]) ?_ (by repeat (first | exact Wk.nil | refine Wk.same ?_ | refine Wk.drop ?_ | refine Wk.shl ?_ | refine Wk.shk ?_))
  refine xss_form ?_
  refine xss_setX 10 pt_ ⟨_, (XE.eq (xe_mod (xe_int1 F.n_int (xe_ix (xv 5) xe_int (by first | exact itWT 1 rfl rfl | exact itW 1 rfl rfl | exact itS 1 rfl (by first | omega | (simp; done) | (simp; omega) | assumption) (by first | omega | (simp; done) | (simp; omega) | assumption) | exact itN 1 rfl (by first | omega | (simp; done) | (simp; omega) | assumption) | exact itI 1 rfl (by first | omega | (simp; done) | (simp; omega) | assumption) | exact itL 1 rfl default (by first | omega | (simp; done) | (simp; omega) | assumption) | exact itT 1 rfl default (by first | omega | (simp; done) | (simp; omega) | assumption))) (by constructor)) (XE.eq (xe_two (id := "max") (g := fun i j => if i < j then j else i) F.n_max xe_int (xe_len F.n_len (xv 6) (LenD.l _)) (fun _ => call_max2 rfl)) (d' := .i ((max 1 L1.length : Nat) : Int)) (congrArg D.i (by simp only [List.length_map]; split <;> omega))) (by omega)) (d' := .i ((dg.getD 1 0 % max 1 L1.length : Nat) : Int)) rfl), ?_⟩
  rw [ht]
  refine xss_setX 11 pt_ ⟨_, (XE.eq (xe_mod (xe_int1 F.n_int (xe_ix (xv 5) xe_int (by first | exact itWT 2 rfl rfl | exact itW 2 rfl rfl | exact itS 2 rfl (by first | omega | (simp; done) | (simp; omega) | assumption) (by first | omega | (simp; done) | (simp; omega) | assumption) | exact itN 2 rfl (by first | omega | (simp; done) | (simp; omega) | assumption) | exact itI 2 rfl (by first | omega | (simp; done) | (simp; omega) | assumption) | exact itL 2 rfl default (by first | omega | (simp; done) | (simp; omega) | assumption) | exact itT 2 rfl default (by first | omega | (simp; done) | (simp; omega) | assumption))) (by constructor)) (XE.eq (xe_two (id := "max") (g := fun i j => if i < j then j else i) F.n_max xe_int (xe_len F.n_len (xv 7) (LenD.l _)) (fun _ => call_max2 rfl)) (d' := .i ((max 1 L2.length : Nat) : Int)) (congrArg D.i (by simp only [List.length_map]; split <;> omega))) (by omega)) (d' := .i ((dg.getD 2 0 % max 1 L2.length : Nat) : Int)) rfl), ?_⟩
  rw [hu]
  refine xss_setX 6 pt_ ⟨_, (XE.eq (xe_plus (XE.eq (xe_slL (xv 6) (part_some (xv 10)) part_none) (d' := .l ((L1.drop t).map .s)) (congrArg D.l (by rw [cut_from (by omega), Int.toNat_natCast, List.map_drop]))) (XE.eq (xe_slL (xv 6) part_none (part_some (xv 10))) (d' := .l ((L1.take t).map .s)) (congrArg D.l (by rw [cut_to (by omega), Int.toNat_natCast, List.map_take]))) (AddD.l _ _ (by simp; omega))) (d' := .l ((rotF L1 t).map .s)) (congrArg D.l (by rw [rotF, List.map_append]))), ?_⟩
  refine xss_setX 7 pt_ ⟨_, (XE.eq (xe_plus (XE.eq (xe_slL (xv 7) (part_some (xv 11)) part_none) (d' := .l ((L2.drop u).map .s)) (congrArg D.l (by rw [cut_from (by omega), Int.toNat_natCast, List.map_drop]))) (XE.eq (xe_slL (xv 7) part_none (part_some (xv 11))) (d' := .l ((L2.take u).map .s)) (congrArg D.l (by rw [cut_to (by omega), Int.toNat_natCast, List.map_take]))) (AddD.l _ _ (by simp; omega))) (d' := .l ((rotF L2 u).map .s)) (congrArg D.l (by rw [rotF, List.map_append]))), ?_⟩
  refine xss_setX 12 pt_ ⟨_, (xe_ix (xv 5) (xe_plus xe_int (xe_int1 F.n_int (xe_gt (xe_mod (xe_int1 F.n_int (xe_ix (xv 5) xe_int (by first | exact itWT 4 rfl rfl | exact itW 4 rfl rfl | exact itS 4 rfl (by first | omega | (simp; done) | (simp; omega) | assumption) (by first | omega | (simp; done) | (simp; omega) | assumption) | exact itN 4 rfl (by first | omega | (simp; done) | (simp; omega) | assumption) | exact itI 4 rfl (by first | omega | (simp; done) | (simp; omega) | assumption) | exact itL 4 rfl default (by first | omega | (simp; done) | (simp; omega) | assumption) | exact itT 4 rfl default (by first | omega | (simp; done) | (simp; omega) | assumption))) (by constructor)) xe_int (by first | omega | (simp; done) | (simp; omega) | assumption)) xe_int) (by constructor)) (by first | exact AddD.i _ _ | exact AddD.s _ _ (by first | omega | (simp; done) | (simp; omega) | assumption) | exact AddD.l _ _ (by first | omega | (simp; done) | (simp; omega) | assumption) | exact AddD.t _ _ (by first | omega | (simp; done) | (simp; omega) | assumption))) (inN (by split <;> omega) (by split <;> (simp; omega)))), ?_⟩
  rw [hd]
  refine xss_retX ⟨_, (xe_lst (xa_cons (xv 2) (xa_cons (xv 3) (xa_cons (xe_call F.kn__law_named (by dsimp only [Wd.ga, Ga.blk]; decide) (xa_cons (xv 6) (xa_cons (xe_ix (xv 5) xe_int (by first | exact itWT 3 rfl rfl | exact itW 3 rfl rfl | exact itS 3 rfl (by first | omega | (simp; done) | (simp; omega) | assumption) (by first | omega | (simp; done) | (simp; omega) | assumption) | exact itN 3 rfl (by first | omega | (simp; done) | (simp; omega) | assumption) | exact itI 3 rfl (by first | omega | (simp; done) | (simp; omega) | assumption) | exact itL 3 rfl default (by first | omega | (simp; done) | (simp; omega) | assumption) | exact itT 3 rfl default (by first | omega | (simp; done) | (simp; omega) | assumption))) xa_nil)) (sp__law_named F (by omega) (by rw [rot_len]; omega))) (xa_cons (xe_call F.kn__law_named (by dsimp only [Wd.ga, Ga.blk]; decide) (xa_cons (xv 7) (xa_cons (xv 12) xa_nil)) (sp__law_named F (by omega) (by rw [rot_len]; omega))) xa_nil)))) (by first | omega | (simp; done) | (simp; omega) | assumption)), ?_⟩
  rfl
theorem snoc_ok {L : List Tx} {x : Tx} (h : ∀ x ∈ L, OkM m n x) (hx : OkM m n x) : ∀ y ∈ L ++ [x], OkM m n y := fun y hy => by
  rcases List.mem_append.mp hy with z | z
  · exact h y z
  · rw [List.mem_singleton.mp z]; exact hx
theorem der6 (F : Wo W) (hA0 : 0 ≤ A) (hA : A ≤ 800) (hm3 : Mk3 m) (hn1 : 1 ≤ n) (hn : n ≤ 30) (hB : B.length ≤ 10) (hh : Dig headS dg) (H : DerGo W ns A n m B dg 7 (B.length + 3)) : DerGo W ns A n m B dg 6 (B.length + 2) := by
  intro L1 L2 l1 l2 k1 k2
  have hlen : dg.length = 15 := hh.len
  by_cases c : dg.getD 0 0 = 7
  · obtain ⟨c1, hc1⟩ := sp__law_cellI F ns (A + 11) (by omega) (by omega)
    obtain ⟨g1, hg1, hd1⟩ := sp__law_digits F c1 (sizes := [8, 8, 8, 8, 8, 8, 8, 8, 8, 8, 8, 8, 8, 8, 8, 8, 8, 8, 8, 8, 8, 8, 8, 8, 8, 8, 8, 8, 8, 8]) (by decide) (by decide)
    obtain ⟨x1, hx1, hs1⟩ := sp__law_stamp F (n := n) (l := g1) hm3 (by rw [hg1.len]; exact hn) hn1 hn
    obtain ⟨c2, hc2⟩ := sp__law_cellI F ns (A + 12) (by omega) (by omega)
    obtain ⟨g2, hg2, hd2⟩ := sp__law_digits F c2 (sizes := [8, 8, 8, 8, 8, 8, 8, 8, 8, 8, 8, 8, 8, 8, 8, 8, 8, 8, 8, 8, 8, 8, 8, 8, 8, 8, 8, 8, 8, 8]) (by decide) (by decide)
    obtain ⟨x2, hx2, hs2⟩ := sp__law_stamp F (n := n) (l := g2) hm3 (by rw [hg2.len]; exact hn) hn1 hn
    obtain ⟨F1, F2, d1, d2, q1, q2, q3, q4, q5⟩ := H (L1 ++ [x1]) (L2 ++ [x2]) (by simp; omega) (by simp; omega) (snoc_ok k1 hx1) (snoc_ok k2 hx2)
    refine ⟨F1, F2, d1, d2, q1, q2, q3, q4, ?_⟩
    refine xss_form ?_
    refine xss_ifX ⟨true, XT.eq (xt_eq (xe_ix (xv 5) xe_int (by first | exact itWT 0 rfl rfl | exact itW 0 rfl rfl | exact itS 0 rfl (by first | omega | (simp; done) | (simp; omega) | assumption) (by first | omega | (simp; done) | (simp; omega) | assumption) | exact itN 0 rfl (by first | omega | (simp; done) | (simp; omega) | assumption) | exact itI 0 rfl (by first | omega | (simp; done) | (simp; omega) | assumption) | exact itL 0 rfl default (by first | omega | (simp; done) | (simp; omega) | assumption) | exact itT 0 rfl default (by first | omega | (simp; done) | (simp; omega) | assumption))) xe_int (by constructor)) (by exact decide_eq_true (by omega)), fun h => ?_, fun h => ?_⟩
    · refine .nx (xss_form ?_) q5
      have hol1 : (L1.map D.s).length < 16777216 := by simp; omega
      have hol2 : (L2.map D.s).length < 16777216 := by simp; omega
      refine xss_cons (xs_append 6 (xe_call F.kn__law_stamp (by dsimp only [Wd.ga, Ga.blk]; decide) (xa_cons (xv 3) (xa_cons (xe_call F.kn__law_digits (by dsimp only [Wd.ga, Ga.blk]; decide) (xa_cons (xe_call F.kn__law_cell (by dsimp only [Wd.ga, Ga.blk]; decide) (xa_cons (xv 0) (xa_cons (xe_plus (xv 1) xe_int (by first | exact AddD.i _ _ | exact AddD.s _ _ (by first | omega | (simp; done) | (simp; omega) | assumption) | exact AddD.l _ _ (by first | omega | (simp; done) | (simp; omega) | assumption) | exact AddD.t _ _ (by first | omega | (simp; done) | (simp; omega) | assumption))) xa_nil)) (hc1)) (xa_cons (XE.eq (xe_times (xe_lst (xa_cons xe_int xa_nil) (by first | omega | (simp; done) | (simp; omega) | assumption)) xe_int (by first | exact MulD.i _ _ (by first | exact Or.inl (by omega) | exact Or.inr (by omega) | assumption) | exact MulD.s _ _ _ rfl (by first | omega | (simp; done) | (simp; omega) | assumption) (by first | omega | (simp; done) | (simp; omega) | assumption) | exact MulD.l _ _ _ rfl (by first | omega | (simp; done) | (simp; omega) | assumption) (by first | omega | (simp; done) | (simp; omega) | assumption))) (d' := .l (natsD [8, 8, 8, 8, 8, 8, 8, 8, 8, 8, 8, 8, 8, 8, 8, 8, 8, 8, 8, 8, 8, 8, 8, 8, 8, 8, 8, 8, 8, 8])) rfl) xa_nil)) (hd1)) (xa_cons (xv 2) xa_nil))) (hs1)) rfl rfl (by first | exact Or.inl rfl | exact Or.inr (Or.inl rfl)) hol1 (by decide +kernel) (by decide +kernel)) ?_
      refine xss_cons (xs_append 7 (xe_call F.kn__law_stamp (by dsimp only [Wd.ga, Ga.blk]; decide) (xa_cons (xv 3) (xa_cons (xe_call F.kn__law_digits (by dsimp only [Wd.ga, Ga.blk]; decide) (xa_cons (xe_call F.kn__law_cell (by dsimp only [Wd.ga, Ga.blk]; decide) (xa_cons (xv 0) (xa_cons (xe_plus (xv 1) xe_int (by first | exact AddD.i _ _ | exact AddD.s _ _ (by first | omega | (simp; done) | (simp; omega) | assumption) | exact AddD.l _ _ (by first | omega | (simp; done) | (simp; omega) | assumption) | exact AddD.t _ _ (by first | omega | (simp; done) | (simp; omega) | assumption))) xa_nil)) (hc2)) (xa_cons (XE.eq (xe_times (xe_lst (xa_cons xe_int xa_nil) (by first | omega | (simp; done) | (simp; omega) | assumption)) xe_int (by first | exact MulD.i _ _ (by first | exact Or.inl (by omega) | exact Or.inr (by omega) | assumption) | exact MulD.s _ _ _ rfl (by first | omega | (simp; done) | (simp; omega) | assumption) (by first | omega | (simp; done) | (simp; omega) | assumption) | exact MulD.l _ _ _ rfl (by first | omega | (simp; done) | (simp; omega) | assumption) (by first | omega | (simp; done) | (simp; omega) | assumption))) (d' := .l (natsD [8, 8, 8, 8, 8, 8, 8, 8, 8, 8, 8, 8, 8, 8, 8, 8, 8, 8, 8, 8, 8, 8, 8, 8, 8, 8, 8, 8, 8, 8])) rfl) xa_nil)) (hd2)) (xa_cons (xv 2) xa_nil))) (hs2)) rfl rfl (by first | exact Or.inl rfl | exact Or.inr (Or.inl rfl)) hol2 (by decide +kernel) (by decide +kernel)) ?_
      simp only [List.set_cons_zero, List.set_cons_succ, List.map_append, List.map_cons, List.map_nil]
      exact xss_nil
    · cases h
  · obtain ⟨F1, F2, d1, d2, q1, q2, q3, q4, q5⟩ := H L1 L2 (by omega) (by omega) k1 k2
    refine ⟨F1, F2, d1, d2, q1, q2, q3, q4, ?_⟩
    refine xss_form ?_
    refine xss_ifX ⟨false, XT.eq (xt_eq (xe_ix (xv 5) xe_int (by first | exact itWT 0 rfl rfl | exact itW 0 rfl rfl | exact itS 0 rfl (by first | omega | (simp; done) | (simp; omega) | assumption) (by first | omega | (simp; done) | (simp; omega) | assumption) | exact itN 0 rfl (by first | omega | (simp; done) | (simp; omega) | assumption) | exact itI 0 rfl (by first | omega | (simp; done) | (simp; omega) | assumption) | exact itL 0 rfl default (by first | omega | (simp; done) | (simp; omega) | assumption) | exact itT 0 rfl default (by first | omega | (simp; done) | (simp; omega) | assumption))) xe_int (by constructor)) (by exact decide_eq_false (by omega)), fun h => ?_, fun h => ?_⟩
    · cases h
    exact .skip q5
theorem set_ok {L : List Tx} {k : Nat} {x : Tx} (h : ∀ x ∈ L, OkM m n x) (hx : OkM m n x) : ∀ y ∈ L.set k x, OkM m n y := fun y hy => by
  rcases List.mem_or_eq_of_mem_set hy with z | z
  · exact h y z
  · rw [z]; exact hx
theorem set_map (L : List Tx) (k : Nat) (y : Tx) : (L.map D.s).set ((k : Nat) : Int).toNat (.s y) = (L.set k y).map .s := by rw [Int.toNat_natCast, List.map_set]
theorem der5 (F : Wo W) (hm3 : Mk3 m) (hn1 : 1 ≤ n) (hn : n ≤ 30) (hB : B.length ≤ 10) (hh : Dig headS dg) (H : DerGo W ns A n m B dg 6 (B.length + 2)) : DerGo W ns A n m B dg 5 (B.length + 2) := by
  intro L1 L2 l1 l2 k1 k2
  have hlen : dg.length = 15 := hh.len
  by_cases c : dg.getD 0 0 = 6 ∧ 0 < L1.length
  · have hs := Nat.mod_lt (dg.getD 8 0) c.2
    generalize hse : dg.getD 8 0 % L1.length = s at hs
    obtain ⟨y, hy, hch⟩ := sp__law_changed F hm3 (Nat.mod_lt (dg.getD 9 0) hn1) hn (k1 _ (getD_mem' (d := []) hs))
    obtain ⟨F1, F2, d1, d2, q1, q2, q3, q4, q5⟩ := H (L1.set s y) L2 (by simpa using l1) l2 (set_ok k1 hy) k2
    refine ⟨F1, F2, d1, d2, q1, q2, q3, q4, ?_⟩
    refine xss_form ?_
    refine xss_ifX ⟨true, XT.eq (XW.xt (xw_and (xt_eq (xe_ix (xv 5) xe_int (by first | exact itWT 0 rfl rfl | exact itW 0 rfl rfl | exact itS 0 rfl (by first | omega | (simp; done) | (simp; omega) | assumption) (by first | omega | (simp; done) | (simp; omega) | assumption) | exact itN 0 rfl (by first | omega | (simp; done) | (simp; omega) | assumption) | exact itI 0 rfl (by first | omega | (simp; done) | (simp; omega) | assumption) | exact itL 0 rfl default (by first | omega | (simp; done) | (simp; omega) | assumption) | exact itT 0 rfl default (by first | omega | (simp; done) | (simp; omega) | assumption))) xe_int (by constructor)) (fun hh1 => (xw_and1 (xt_gt (xe_view 6 rfl rfl (xe_len F.n_len (xv 6) (LenD.l _)) rfl) xe_int))))) (by (rw [Bool.and_eq_true, decide_eq_true_eq, decide_eq_true_eq, List.length_map]; omega)), fun h => ?_, fun h => ?_⟩
    · refine .nx (XSs.weakR (e2 := [.v (.q ns), .v (.i A), .v (.i (n : Int)), .v (.s m), .v (.l (B.map .s)), .v (.l (natsD dg)), .ol ((L1.set s y).map .s), .ol (L2.map .s), .no, .v (.i (s : Int)), .no, .no, .no]) (xss_form ?_) (by repeat (first | exact Wk.nil | refine Wk.same ?_ | refine Wk.drop ?_ | refine Wk.shl ?_ | refine Wk.shk ?_))) q5
      refine xss_setX 9 pt_ ⟨_, (XE.eq (xe_mod (xe_int1 F.n_int (xe_ix (xv 5) xe_int (by first | exact itWT 8 rfl rfl | exact itW 8 rfl rfl | exact itS 8 rfl (by first | omega | (simp; done) | (simp; omega) | assumption) (by first | omega | (simp; done) | (simp; omega) | assumption) | exact itN 8 rfl (by first | omega | (simp; done) | (simp; omega) | assumption) | exact itI 8 rfl (by first | omega | (simp; done) | (simp; omega) | assumption) | exact itL 8 rfl default (by first | omega | (simp; done) | (simp; omega) | assumption) | exact itT 8 rfl default (by first | omega | (simp; done) | (simp; omega) | assumption))) (by constructor)) (xe_view 6 rfl rfl (xe_len F.n_len (xv 6) (LenD.l _)) rfl) (by rw [List.length_map]; omega)) (d' := .i ((dg.getD 8 0 % L1.length : Nat) : Int)) (congrArg D.i (by rw [List.length_map]; rfl))), ?_⟩
      rw [hse]
      refine xss_cons (xs_setL 6 (xe_view 6 rfl rfl (xe_call F.kn__law_changed (by dsimp only [Wd.ga, Ga.blk]; decide) (xa_cons (xe_ix (xv 6) (xv 9) (itL (f := D.s) s rfl [] hs)) (xa_cons (xv 3) (xa_cons (XE.eq (xe_mod (xe_int1 F.n_int (xe_ix (xv 5) xe_int (by first | exact itWT 9 rfl rfl | exact itW 9 rfl rfl | exact itS 9 rfl (by first | omega | (simp; done) | (simp; omega) | assumption) (by first | omega | (simp; done) | (simp; omega) | assumption) | exact itN 9 rfl (by first | omega | (simp; done) | (simp; omega) | assumption) | exact itI 9 rfl (by first | omega | (simp; done) | (simp; omega) | assumption) | exact itL 9 rfl default (by first | omega | (simp; done) | (simp; omega) | assumption) | exact itT 9 rfl default (by first | omega | (simp; done) | (simp; omega) | assumption))) (by constructor)) (xv 2) (by omega)) (d' := .i ((dg.getD 9 0 % n : Nat) : Int)) rfl) xa_nil))) hch) rfl) (xv 9) rfl rfl (by first | exact Or.inl rfl | exact Or.inr (Or.inl rfl)) (by omega) (by rw [List.length_map]; omega) (by decide +kernel) (by decide +kernel)) ?_
      rw [set_map]
      exact xss_nil
    · cases h
  · obtain ⟨F1, F2, d1, d2, q1, q2, q3, q4, q5⟩ := H L1 L2 l1 l2 k1 k2
    refine ⟨F1, F2, d1, d2, q1, q2, q3, q4, ?_⟩
    refine xss_form ?_
    refine xss_ifX ⟨false, XT.eq (XW.xt (xw_and (xt_eq (xe_ix (xv 5) xe_int (by first | exact itWT 0 rfl rfl | exact itW 0 rfl rfl | exact itS 0 rfl (by first | omega | (simp; done) | (simp; omega) | assumption) (by first | omega | (simp; done) | (simp; omega) | assumption) | exact itN 0 rfl (by first | omega | (simp; done) | (simp; omega) | assumption) | exact itI 0 rfl (by first | omega | (simp; done) | (simp; omega) | assumption) | exact itL 0 rfl default (by first | omega | (simp; done) | (simp; omega) | assumption) | exact itT 0 rfl default (by first | omega | (simp; done) | (simp; omega) | assumption))) xe_int (by constructor)) (fun hh1 => (xw_and1 (xt_gt (xe_view 6 rfl rfl (xe_len F.n_len (xv 6) (LenD.l _)) rfl) xe_int))))) (by (rw [Bool.and_eq_false_iff, decide_eq_false_iff_not, decide_eq_false_iff_not, List.length_map]; omega)), fun h => ?_, fun h => ?_⟩
    · cases h
    exact .skip q5
theorem der4 (F : Wo W) (hm3 : Mk3 m) (hn1 : 1 ≤ n) (hn : n ≤ 30) (hB : B.length ≤ 10) (hh : Dig headS dg) (H : DerGo W ns A n m B dg 5 (B.length + 2)) : DerGo W ns A n m B dg 4 (B.length + 2) := by
  intro L1 L2 l1 l2 k1 k2
  have hlen : dg.length = 15 := hh.len
  by_cases c : dg.getD 0 0 = 5 ∧ 0 < L2.length
  · have hs := Nat.mod_lt (dg.getD 8 0) c.2
    generalize hse : dg.getD 8 0 % L2.length = s at hs
    obtain ⟨y, hy, hch⟩ := sp__law_changed F hm3 (Nat.mod_lt (dg.getD 9 0) hn1) hn (k2 _ (getD_mem' (d := []) hs))
    obtain ⟨F1, F2, d1, d2, q1, q2, q3, q4, q5⟩ := H L1 (L2.set s y) l1 (by simpa using l2) k1 (set_ok k2 hy)
    refine ⟨F1, F2, d1, d2, q1, q2, q3, q4, ?_⟩
    refine xss_form ?_
    refine xss_ifX ⟨true, XT.eq (XW.xt (xw_and (xt_eq (xe_ix (xv 5) xe_int (by first | exact itWT 0 rfl rfl | exact itW 0 rfl rfl | exact itS 0 rfl (by first | omega | (simp; done) | (simp; omega) | assumption) (by first | omega | (simp; done) | (simp; omega) | assumption) | exact itN 0 rfl (by first | omega | (simp; done) | (simp; omega) | assumption) | exact itI 0 rfl (by first | omega | (simp; done) | (simp; omega) | assumption) | exact itL 0 rfl default (by first | omega | (simp; done) | (simp; omega) | assumption) | exact itT 0 rfl default (by first | omega | (simp; done) | (simp; omega) | assumption))) xe_int (by constructor)) (fun hh1 => (xw_and1 (xt_gt (xe_view 7 rfl rfl (xe_len F.n_len (xv 7) (LenD.l _)) rfl) xe_int))))) (by (rw [Bool.and_eq_true, decide_eq_true_eq, decide_eq_true_eq, List.length_map]; omega)), fun h => ?_, fun h => ?_⟩
    · refine .nx (XSs.weakR (e2 := [.v (.q ns), .v (.i A), .v (.i (n : Int)), .v (.s m), .v (.l (B.map .s)), .v (.l (natsD dg)), .ol (L1.map .s), .ol ((L2.set s y).map .s), .no, .v (.i (s : Int)), .no, .no, .no]) (xss_form ?_) (by repeat (first | exact Wk.nil | refine Wk.same ?_ | refine Wk.drop ?_ | refine Wk.shl ?_ | refine Wk.shk ?_))) q5
      refine xss_setX 9 pt_ ⟨_, (XE.eq (xe_mod (xe_int1 F.n_int (xe_ix (xv 5) xe_int (by first | exact itWT 8 rfl rfl | exact itW 8 rfl rfl | exact itS 8 rfl (by first | omega | (simp; done) | (simp; omega) | assumption) (by first | omega | (simp; done) | (simp; omega) | assumption) | exact itN 8 rfl (by first | omega | (simp; done) | (simp; omega) | assumption) | exact itI 8 rfl (by first | omega | (simp; done) | (simp; omega) | assumption) | exact itL 8 rfl default (by first | omega | (simp; done) | (simp; omega) | assumption) | exact itT 8 rfl default (by first | omega | (simp; done) | (simp; omega) | assumption))) (by constructor)) (xe_view 7 rfl rfl (xe_len F.n_len (xv 7) (LenD.l _)) rfl) (by rw [List.length_map]; omega)) (d' := .i ((dg.getD 8 0 % L2.length : Nat) : Int)) (congrArg D.i (by rw [List.length_map]; rfl))), ?_⟩
      rw [hse]
      refine xss_cons (xs_setL 7 (xe_view 7 rfl rfl (xe_call F.kn__law_changed (by dsimp only [Wd.ga, Ga.blk]; decide) (xa_cons (xe_ix (xv 7) (xv 9) (itL (f := D.s) s rfl [] hs)) (xa_cons (xv 3) (xa_cons (XE.eq (xe_mod (xe_int1 F.n_int (xe_ix (xv 5) xe_int (by first | exact itWT 9 rfl rfl | exact itW 9 rfl rfl | exact itS 9 rfl (by first | omega | (simp; done) | (simp; omega) | assumption) (by first | omega | (simp; done) | (simp; omega) | assumption) | exact itN 9 rfl (by first | omega | (simp; done) | (simp; omega) | assumption) | exact itI 9 rfl (by first | omega | (simp; done) | (simp; omega) | assumption) | exact itL 9 rfl default (by first | omega | (simp; done) | (simp; omega) | assumption) | exact itT 9 rfl default (by first | omega | (simp; done) | (simp; omega) | assumption))) (by constructor)) (xv 2) (by omega)) (d' := .i ((dg.getD 9 0 % n : Nat) : Int)) rfl) xa_nil))) hch) rfl) (xv 9) rfl rfl (by first | exact Or.inl rfl | exact Or.inr (Or.inl rfl)) (by omega) (by rw [List.length_map]; omega) (by decide +kernel) (by decide +kernel)) ?_
      rw [set_map]
      exact xss_nil
    · cases h
  · obtain ⟨F1, F2, d1, d2, q1, q2, q3, q4, q5⟩ := H L1 L2 l1 l2 k1 k2
    refine ⟨F1, F2, d1, d2, q1, q2, q3, q4, ?_⟩
    refine xss_form ?_
    refine xss_ifX ⟨false, XT.eq (XW.xt (xw_and (xt_eq (xe_ix (xv 5) xe_int (by first | exact itWT 0 rfl rfl | exact itW 0 rfl rfl | exact itS 0 rfl (by first | omega | (simp; done) | (simp; omega) | assumption) (by first | omega | (simp; done) | (simp; omega) | assumption) | exact itN 0 rfl (by first | omega | (simp; done) | (simp; omega) | assumption) | exact itI 0 rfl (by first | omega | (simp; done) | (simp; omega) | assumption) | exact itL 0 rfl default (by first | omega | (simp; done) | (simp; omega) | assumption) | exact itT 0 rfl default (by first | omega | (simp; done) | (simp; omega) | assumption))) xe_int (by constructor)) (fun hh1 => (xw_and1 (xt_gt (xe_view 7 rfl rfl (xe_len F.n_len (xv 7) (LenD.l _)) rfl) xe_int))))) (by (rw [Bool.and_eq_false_iff, decide_eq_false_iff_not, decide_eq_false_iff_not, List.length_map]; omega)), fun h => ?_, fun h => ?_⟩
    · cases h
    exact .skip q5
theorem in_two {k a b c : Nat} : (decide ((k : Int) ∈ [(a : Int), (b : Int)]) && decide ((0 : Int) < (c : Int))) = decide ((k = a ∨ k = b) ∧ 0 < c) := by
  rw [Bool.eq_iff_iff, Bool.and_eq_true, decide_eq_true_eq, decide_eq_true_eq, decide_eq_true_eq]
  simp only [List.mem_cons, List.not_mem_nil, or_false]
  omega
theorem der3 (F : Wo W) (hB : B.length ≤ 10) (hh : Dig headS dg) (H : DerGo W ns A n m B dg 4 (B.length + 2)) : DerGo W ns A n m B dg 3 (B.length + 2) := by
  intro L1 L2 l1 l2 k1 k2
  have hlen : dg.length = 15 := hh.len
  by_cases c : (dg.getD 0 0 = 3 ∨ dg.getD 0 0 = 4) ∧ 0 < B.length
  · generalize hse : (dg.getD 7 0 + 1 + dg.getD 8 0 % 2) % B.length = s
    have hdl := del_len L2 s
    obtain ⟨F1, F2, d1, d2, q1, q2, q3, q4, q5⟩ := H L1 (delF L2 s) l1 (by omega) k1 (fun x hx => k2 x (del_mem hx))
    refine ⟨F1, F2, d1, d2, q1, q2, q3, q4, ?_⟩
    refine xss_form ?_
    refine xss_ifX ⟨true, XT.eq (XW.xt (xw_and (xt_in (xe_ix (xv 5) xe_int (by first | exact itWT 0 rfl rfl | exact itW 0 rfl rfl | exact itS 0 rfl (by first | omega | (simp; done) | (simp; omega) | assumption) (by first | omega | (simp; done) | (simp; omega) | assumption) | exact itN 0 rfl (by first | omega | (simp; done) | (simp; omega) | assumption) | exact itI 0 rfl (by first | omega | (simp; done) | (simp; omega) | assumption) | exact itL 0 rfl default (by first | omega | (simp; done) | (simp; omega) | assumption) | exact itT 0 rfl default (by first | omega | (simp; done) | (simp; omega) | assumption))) (xe_lst (xa_cons xe_int (xa_cons xe_int xa_nil)) (by first | omega | (simp; done) | (simp; omega) | assumption)) (InSq.il _ [3, 4])) (fun hh1 => (xw_and1 (xt_gt (xe_len F.n_len (xv 4) (by first | exact LenD.l _ | exact LenD.t _ | exact LenD.q _ | exact LenD.s _ (by first | omega | (simp; done) | (simp; omega) | assumption))) xe_int))))) (by (rw [List.length_map]; exact in_two.trans (decide_eq_true c))), fun h => ?_, fun h => ?_⟩
    · refine .nx (XSs.weakR (e2 := [.v (.q ns), .v (.i A), .v (.i (n : Int)), .v (.s m), .v (.l (B.map .s)), .v (.l (natsD dg)), .ol (L1.map .s), .ol ((delF L2 s).map .s), .v (.i (s : Int)), .no, .no, .no, .no]) (XSs.weakL (env' := [.v (.q ns), .v (.i A), .v (.i (n : Int)), .v (.s m), .v (.l (B.map .s)), .v (.l (natsD dg)), .ol (L1.map .s), .v (.l (L2.map .s)), .no, .no, .no, .no, .no]) (xss_form ?_) (by repeat (first | exact Wk.nil | refine Wk.same ?_ | refine Wk.drop ?_ | refine Wk.shl ?_ | refine Wk.shk ?_))) (by repeat (first | exact Wk.nil | refine Wk.same ?_ | refine Wk.drop ?_ | refine Wk.shl ?_ | refine Wk.shk ?_))) q5
      refine xss_setX 8 pt_ ⟨_, (XE.eq (xe_mod (xe_plus (xe_plus (xe_int1 F.n_int (xe_ix (xv 5) xe_int (by first | exact itWT 7 rfl rfl | exact itW 7 rfl rfl | exact itS 7 rfl (by first | omega | (simp; done) | (simp; omega) | assumption) (by first | omega | (simp; done) | (simp; omega) | assumption) | exact itN 7 rfl (by first | omega | (simp; done) | (simp; omega) | assumption) | exact itI 7 rfl (by first | omega | (simp; done) | (simp; omega) | assumption) | exact itL 7 rfl default (by first | omega | (simp; done) | (simp; omega) | assumption) | exact itT 7 rfl default (by first | omega | (simp; done) | (simp; omega) | assumption))) (by constructor)) xe_int (by first | exact AddD.i _ _ | exact AddD.s _ _ (by first | omega | (simp; done) | (simp; omega) | assumption) | exact AddD.l _ _ (by first | omega | (simp; done) | (simp; omega) | assumption) | exact AddD.t _ _ (by first | omega | (simp; done) | (simp; omega) | assumption))) (xe_mod (xe_int1 F.n_int (xe_ix (xv 5) xe_int (by first | exact itWT 8 rfl rfl | exact itW 8 rfl rfl | exact itS 8 rfl (by first | omega | (simp; done) | (simp; omega) | assumption) (by first | omega | (simp; done) | (simp; omega) | assumption) | exact itN 8 rfl (by first | omega | (simp; done) | (simp; omega) | assumption) | exact itI 8 rfl (by first | omega | (simp; done) | (simp; omega) | assumption) | exact itL 8 rfl default (by first | omega | (simp; done) | (simp; omega) | assumption) | exact itT 8 rfl default (by first | omega | (simp; done) | (simp; omega) | assumption))) (by constructor)) xe_int (by first | omega | (simp; done) | (simp; omega) | assumption)) (by first | exact AddD.i _ _ | exact AddD.s _ _ (by first | omega | (simp; done) | (simp; omega) | assumption) | exact AddD.l _ _ (by first | omega | (simp; done) | (simp; omega) | assumption) | exact AddD.t _ _ (by first | omega | (simp; done) | (simp; omega) | assumption))) (xe_len F.n_len (xv 4) (LenD.l _)) (by rw [List.length_map]; omega)) (d' := .i (((dg.getD 7 0 + 1 + dg.getD 8 0 % 2) % B.length : Nat) : Int)) (congrArg D.i (by rw [List.length_map]; rfl))), ?_⟩
      rw [hse]
      refine xss_cons (xs_setN 7 (xn_addL (XE.eq (xe_slL (xv 7) part_none (part_some (xv 8))) (d' := .l ((L2.take s).map .s)) (congrArg D.l (by rw [cut_to (by omega), Int.toNat_natCast, List.map_take]))) (XE.eq (xe_slL (xv 7) (part_some (xe_plus (xv 8) xe_int (by first | exact AddD.i _ _ | exact AddD.s _ _ (by first | omega | (simp; done) | (simp; omega) | assumption) | exact AddD.l _ _ (by first | omega | (simp; done) | (simp; omega) | assumption) | exact AddD.t _ _ (by first | omega | (simp; done) | (simp; omega) | assumption)))) part_none) (d' := .l ((L2.drop (s + 1)).map .s)) (congrArg D.l (by rw [cut_from (by omega), show ((s : Int) + 1).toNat = s + 1 by omega, List.map_drop]))) (by simp; omega)) pt_ (by simp)) ?_
      rw [← List.map_append]
      exact xss_nil
    · cases h
  · obtain ⟨F1, F2, d1, d2, q1, q2, q3, q4, q5⟩ := H L1 L2 l1 l2 k1 k2
    refine ⟨F1, F2, d1, d2, q1, q2, q3, q4, ?_⟩
    refine xss_form ?_
    refine xss_ifX ⟨false, XT.eq (XW.xt (xw_and (xt_in (xe_ix (xv 5) xe_int (by first | exact itWT 0 rfl rfl | exact itW 0 rfl rfl | exact itS 0 rfl (by first | omega | (simp; done) | (simp; omega) | assumption) (by first | omega | (simp; done) | (simp; omega) | assumption) | exact itN 0 rfl (by first | omega | (simp; done) | (simp; omega) | assumption) | exact itI 0 rfl (by first | omega | (simp; done) | (simp; omega) | assumption) | exact itL 0 rfl default (by first | omega | (simp; done) | (simp; omega) | assumption) | exact itT 0 rfl default (by first | omega | (simp; done) | (simp; omega) | assumption))) (xe_lst (xa_cons xe_int (xa_cons xe_int xa_nil)) (by first | omega | (simp; done) | (simp; omega) | assumption)) (InSq.il _ [3, 4])) (fun hh1 => (xw_and1 (xt_gt (xe_len F.n_len (xv 4) (by first | exact LenD.l _ | exact LenD.t _ | exact LenD.q _ | exact LenD.s _ (by first | omega | (simp; done) | (simp; omega) | assumption))) xe_int))))) (by (rw [List.length_map]; exact in_two.trans (decide_eq_false c))), fun h => ?_, fun h => ?_⟩
    · cases h
    exact .skip q5
theorem der2 (F : Wo W) (hB : B.length ≤ 10) (hh : Dig headS dg) (H : DerGo W ns A n m B dg 3 (B.length + 2)) : DerGo W ns A n m B dg 2 (B.length + 2) := by
  intro L1 L2 l1 l2 k1 k2
  have hlen : dg.length = 15 := hh.len
  by_cases c : (dg.getD 0 0 = 2 ∨ dg.getD 0 0 = 4) ∧ 0 < B.length
  · generalize hse : dg.getD 7 0 % B.length = s
    have hdl := del_len L1 s
    obtain ⟨F1, F2, d1, d2, q1, q2, q3, q4, q5⟩ := H (delF L1 s) L2 (by omega) l2 (fun x hx => k1 x (del_mem hx)) k2
    refine ⟨F1, F2, d1, d2, q1, q2, q3, q4, ?_⟩
    refine xss_form ?_
    refine xss_ifX ⟨true, XT.eq (XW.xt (xw_and (xt_in (xe_ix (xv 5) xe_int (by first | exact itWT 0 rfl rfl | exact itW 0 rfl rfl | exact itS 0 rfl (by first | omega | (simp; done) | (simp; omega) | assumption) (by first | omega | (simp; done) | (simp; omega) | assumption) | exact itN 0 rfl (by first | omega | (simp; done) | (simp; omega) | assumption) | exact itI 0 rfl (by first | omega | (simp; done) | (simp; omega) | assumption) | exact itL 0 rfl default (by first | omega | (simp; done) | (simp; omega) | assumption) | exact itT 0 rfl default (by first | omega | (simp; done) | (simp; omega) | assumption))) (xe_lst (xa_cons xe_int (xa_cons xe_int xa_nil)) (by first | omega | (simp; done) | (simp; omega) | assumption)) (InSq.il _ [2, 4])) (fun hh1 => (xw_and1 (xt_gt (xe_len F.n_len (xv 4) (by first | exact LenD.l _ | exact LenD.t _ | exact LenD.q _ | exact LenD.s _ (by first | omega | (simp; done) | (simp; omega) | assumption))) xe_int))))) (by (rw [List.length_map]; exact in_two.trans (decide_eq_true c))), fun h => ?_, fun h => ?_⟩
    · refine .nx (XSs.weakR (e2 := [.v (.q ns), .v (.i A), .v (.i (n : Int)), .v (.s m), .v (.l (B.map .s)), .v (.l (natsD dg)), .ol ((delF L1 s).map .s), .ol (L2.map .s), .v (.i (s : Int)), .no, .no, .no, .no]) (XSs.weakL (env' := [.v (.q ns), .v (.i A), .v (.i (n : Int)), .v (.s m), .v (.l (B.map .s)), .v (.l (natsD dg)), .v (.l (L1.map .s)), .ol (L2.map .s), .no, .no, .no, .no, .no]) (xss_form ?_) (by repeat (first | exact Wk.nil | refine Wk.same ?_ | refine Wk.drop ?_ | refine Wk.shl ?_ | refine Wk.shk ?_))) (by repeat (first | exact Wk.nil | refine Wk.same ?_ | refine Wk.drop ?_ | refine Wk.shl ?_ | refine Wk.shk ?_))) q5
      refine xss_setX 8 pt_ ⟨_, (XE.eq (xe_mod (xe_int1 F.n_int (xe_ix (xv 5) xe_int (by first | exact itWT 7 rfl rfl | exact itW 7 rfl rfl | exact itS 7 rfl (by first | omega | (simp; done) | (simp; omega) | assumption) (by first | omega | (simp; done) | (simp; omega) | assumption) | exact itN 7 rfl (by first | omega | (simp; done) | (simp; omega) | assumption) | exact itI 7 rfl (by first | omega | (simp; done) | (simp; omega) | assumption) | exact itL 7 rfl default (by first | omega | (simp; done) | (simp; omega) | assumption) | exact itT 7 rfl default (by first | omega | (simp; done) | (simp; omega) | assumption))) (by constructor)) (xe_len F.n_len (xv 4) (LenD.l _)) (by rw [List.length_map]; omega)) (d' := .i ((dg.getD 7 0 % B.length : Nat) : Int)) (congrArg D.i (by rw [List.length_map]; rfl))), ?_⟩
      rw [hse]
      refine xss_cons (xs_setN 6 (xn_addL (XE.eq (xe_slL (xv 6) part_none (part_some (xv 8))) (d' := .l ((L1.take s).map .s)) (congrArg D.l (by rw [cut_to (by omega), Int.toNat_natCast, List.map_take]))) (XE.eq (xe_slL (xv 6) (part_some (xe_plus (xv 8) xe_int (by first | exact AddD.i _ _ | exact AddD.s _ _ (by first | omega | (simp; done) | (simp; omega) | assumption) | exact AddD.l _ _ (by first | omega | (simp; done) | (simp; omega) | assumption) | exact AddD.t _ _ (by first | omega | (simp; done) | (simp; omega) | assumption)))) part_none) (d' := .l ((L1.drop (s + 1)).map .s)) (congrArg D.l (by rw [cut_from (by omega), show ((s : Int) + 1).toNat = s + 1 by omega, List.map_drop]))) (by simp; omega)) pt_ (by simp)) ?_
      rw [← List.map_append]
      exact xss_nil
    · cases h
  · obtain ⟨F1, F2, d1, d2, q1, q2, q3, q4, q5⟩ := H L1 L2 l1 l2 k1 k2
    refine ⟨F1, F2, d1, d2, q1, q2, q3, q4, ?_⟩
    refine xss_form ?_
    refine xss_ifX ⟨false, XT.eq (XW.xt (xw_and (xt_in (xe_ix (xv 5) xe_int (by first | exact itWT 0 rfl rfl | exact itW 0 rfl rfl | exact itS 0 rfl (by first | omega | (simp; done) | (simp; omega) | assumption) (by first | omega | (simp; done) | (simp; omega) | assumption) | exact itN 0 rfl (by first | omega | (simp; done) | (simp; omega) | assumption) | exact itI 0 rfl (by first | omega | (simp; done) | (simp; omega) | assumption) | exact itL 0 rfl default (by first | omega | (simp; done) | (simp; omega) | assumption) | exact itT 0 rfl default (by first | omega | (simp; done) | (simp; omega) | assumption))) (xe_lst (xa_cons xe_int (xa_cons xe_int xa_nil)) (by first | omega | (simp; done) | (simp; omega) | assumption)) (InSq.il _ [2, 4])) (fun hh1 => (xw_and1 (xt_gt (xe_len F.n_len (xv 4) (by first | exact LenD.l _ | exact LenD.t _ | exact LenD.q _ | exact LenD.s _ (by first | omega | (simp; done) | (simp; omega) | assumption))) xe_int))))) (by (rw [List.length_map]; exact in_two.trans (decide_eq_false c))), fun h => ?_, fun h => ?_⟩
    · cases h
    exact .skip q5
theorem app_ok {L M : List Tx} (h : ∀ x ∈ L, OkM m n x) (h2 : ∀ x ∈ M, OkM m n x) : ∀ y ∈ L ++ M, OkM m n y := fun y hy => by
  rcases List.mem_append.mp hy with z | z
  · exact h y z
  · exact h2 y z
theorem sp__law_derived (F : Wo W) (ns : List Int) (A : Int) (hA0 : 0 ≤ A) (hA : A ≤ 800) (hm3 : Mk3 m) (hn1 : 1 ≤ n) (hn : n ≤ 30) (hL : ∀ x ∈ B, OkM m n x) (hB : B.length ≤ 10) (hh : Dig headS dg) : ∃ (F1 F2 : List Tx) (d1 d2 : Nat), F1.length ≤ B.length + 3 ∧ F2.length ≤ B.length + 3 ∧ (∀ x ∈ F1, OkM m n x) ∧ (∀ x ∈ F2, OkM m n x) ∧ RB W N__law_derived (defScope (top 84)) 4 (defBody (top 84)) 6 [.q ns, .i A, .i (n : Int), .s m, .l (B.map .s), .l (natsD dg)] (.l [.i (n : Int), .s m, .l ((namedF F1 d1).map pairL), .l ((namedF F2 d2).map pairL)]) := by
  have hlen : dg.length = 15 := hh.len
  have h5 : dg.getD 5 0 < 3 := hh.lt 5 (by decide)
  have h6 : dg.getD 6 0 < 3 := hh.lt 6 (by decide)
  obtain ⟨N1, a1, b1, hN1⟩ := sp__law_nets F (many := dg.getD 5 0) ns (A + 7) (by omega) (by omega) (by omega) hn hL (by omega)
  obtain ⟨N2, a2, b2, hN2⟩ := sp__law_nets F (many := dg.getD 6 0) ns (A + 9) (by omega) (by omega) (by omega) hn hL (by omega)
  obtain ⟨F1, F2, d1, d2, q1, q2, q3, q4, q5⟩ := der2 F hB hh (der3 F hB hh (der4 F hm3 hn1 hn hB hh (der5 F hm3 hn1 hn hB hh (der6 F hA0 hA hm3 hn1 hn hB hh (der7 (ns := ns) (A := A) (n := n) (m := m) F hB hh))))) (B ++ N1) (B ++ N2) (by simp; omega) (by simp; omega) (app_ok hL b1) (app_ok hL b2)
  refine ⟨F1, F2, d1, d2, q1, q2, q3, q4, rfl, _, .rt _, ?_⟩
  show XSs (W.ga N__law_derived (defScope (top 84)) 4) (defBody (top 84)) [.v (.q ns), .v (.i A), .v (.i (n : Int)), .v (.s m), .v (.l (B.map .s)), .v (.l (natsD dg)), .no, .no, .no, .no, .no, .no, .no] _; refine xss_form ?_
  refine xss_cons (xs_setN 6 (xn_addL (xv 4) (xe_call F.kn__law_nets (by dsimp only [Wd.ga, Ga.blk]; decide) (xa_cons (xv 0) (xa_cons (xe_plus (xv 1) xe_int (by first | exact AddD.i _ _ | exact AddD.s _ _ (by first | omega | (simp; done) | (simp; omega) | assumption) | exact AddD.l _ _ (by first | omega | (simp; done) | (simp; omega) | assumption) | exact AddD.t _ _ (by first | omega | (simp; done) | (simp; omega) | assumption))) (xa_cons (xv 4) (xa_cons (xe_ix (xv 5) xe_int (by first | exact itWT 5 rfl rfl | exact itW 5 rfl rfl | exact itS 5 rfl (by first | omega | (simp; done) | (simp; omega) | assumption) (by first | omega | (simp; done) | (simp; omega) | assumption) | exact itN 5 rfl (by first | omega | (simp; done) | (simp; omega) | assumption) | exact itI 5 rfl (by first | omega | (simp; done) | (simp; omega) | assumption) | exact itL 5 rfl default (by first | omega | (simp; done) | (simp; omega) | assumption) | exact itT 5 rfl default (by first | omega | (simp; done) | (simp; omega) | assumption))) xa_nil)))) (hN1)) (by simp; omega)) pt_ (by simp)) ?_
  rw [← List.map_append]
  refine xss_cons (xs_setN 7 (xn_addL (xv 4) (xe_call F.kn__law_nets (by dsimp only [Wd.ga, Ga.blk]; decide) (xa_cons (xv 0) (xa_cons (xe_plus (xv 1) xe_int (by first | exact AddD.i _ _ | exact AddD.s _ _ (by first | omega | (simp; done) | (simp; omega) | assumption) | exact AddD.l _ _ (by first | omega | (simp; done) | (simp; omega) | assumption) | exact AddD.t _ _ (by first | omega | (simp; done) | (simp; omega) | assumption))) (xa_cons (xv 4) (xa_cons (xe_ix (xv 5) xe_int (by first | exact itWT 6 rfl rfl | exact itW 6 rfl rfl | exact itS 6 rfl (by first | omega | (simp; done) | (simp; omega) | assumption) (by first | omega | (simp; done) | (simp; omega) | assumption) | exact itN 6 rfl (by first | omega | (simp; done) | (simp; omega) | assumption) | exact itI 6 rfl (by first | omega | (simp; done) | (simp; omega) | assumption) | exact itL 6 rfl default (by first | omega | (simp; done) | (simp; omega) | assumption) | exact itT 6 rfl default (by first | omega | (simp; done) | (simp; omega) | assumption))) xa_nil)))) (hN2)) (by simp; omega)) pt_ (by simp)) ?_
  rw [← List.map_append]
  exact q5
end
end Q8
namespace Q8
open PySem L2 PyProof.Rows
def sixM (m : Tx) : List Tx := [m, m, m, [122, 121, 120], [121, 46, 122], [122, 97, 98]]
theorem six_mk {m : Tx} (h : Mk3 m) {i : Nat} (hi : i < 6) : Mk3 ((sixM m).getD i []) := by
  match i, hi with
  | 0, _ => exact h
  | 1, _ => exact h
  | 2, _ => exact h
  | 3, _ => exact ⟨rfl, by show ∀ c ∈ [122, 121, 120], c ∈ marksT; decide⟩
  | 4, _ => exact ⟨rfl, by show ∀ c ∈ [121, 46, 122], c ∈ marksT; decide⟩
  | 5, _ => exact ⟨rfl, by show ∀ c ∈ [122, 97, 98], c ∈ marksT; decide⟩
section
variable {W : Wd}
theorem sp__law_two (F : Wo W) {U : Nat} (ns : List Int) (A : Int) (hA0 : 0 ≤ A) (hA : A ≤ 800) (hU : U ≤ 7) : ∃ (n : Nat) (m : Tx) (F1 F2 : List Tx) (d1 d2 : Nat), 1 ≤ n ∧ n ≤ 5 ∧ Mk3 m ∧ F1.length ≤ U + 3 ∧ F2.length ≤ U + 3 ∧ (∀ x ∈ F1, OkM m n x) ∧ (∀ x ∈ F2, OkM m n x) ∧ RB W N__law_two (defScope (top 85)) 5 (defBody (top 85)) 3 [.q ns, .i A, .i (U : Int)] (.l [.i (n : Int), .s m, .l ((namedF F1 d1).map pairL), .l ((namedF F2 d2).map pairL)]) := by
  obtain ⟨n, m, L, n1, n2, hm3, hLl, hL, hbase⟩ := sp__law_base F (U := U) ns A hA0 (by omega) (by omega)
  obtain ⟨c, hc⟩ := sp__law_cellI F ns (A + 6) (by omega) (by omega)
  obtain ⟨dg, hdg, hd⟩ := sp__law_digits F c (sizes := headS) (by decide) (by decide)
  have hlen : dg.length = 15 := hdg.len
  have h11 : dg.getD 11 0 < 6 := hdg.lt 11 (by decide)
  have hm2 := six_mk hm3 h11
  generalize hme : (sixM m).getD (dg.getD 11 0) [] = m2 at hm2
  obtain ⟨B, hcomp, hB⟩ := comp_ex (put := putN 7) (Γb := (W.ga N__law_two (defScope (top 85)) 5).blk (lcSc (asgVal (stAt (defBody (top 85)) 3)))) (elt := lcElt (asgVal (stAt (defBody (top 85)) 3))) (env := [.v (.q ns), .v (.i A), .v (.i (U : Int)), .v (.l [.i (n : Int), .s m, .l (L.map .s)]), .v (.l (natsD dg)), .v (.s m2), .no, .no, .no]) (f := D.s) (g := D.s) (R := fun (x : Tx) y => OkM m2 n y) (l := L) (fun x hx => by
    obtain ⟨y, hy, hr⟩ := sp__law_recoloured F hm3 hm2 (by omega) (hL x hx)
    refine ⟨_, y, putn 7, ?_, hy⟩
    conv => arg 2; whnf
    exact (xe_call F.kn__law_recoloured (by dsimp only [Wd.ga, Ga.blk]; decide) (xa_cons (xv 7) (xa_cons (xe_ix (xv 3) xe_int (itW 1 rfl rfl)) (xa_cons (xv 5) xa_nil))) (hr)))
  have hBl : B.length = L.length := hB.len
  have hBm : ∀ x ∈ B, OkM m2 n x := fun x hx => All2.right (P := OkM m2 n) (fun _ _ h => h) hB x hx
  by_cases c10 : dg.getD 10 0 = 0
  · obtain ⟨B2, hcomp2, hB2⟩ := comp_ex (put := putN 8) (Γb := (W.ga N__law_two (defScope (top 85)) 5).blk (lcSc (asgVal (stAt (whT (stAt (defBody (top 85)) 4)) 0)))) (elt := lcElt (asgVal (stAt (whT (stAt (defBody (top 85)) 4)) 0))) (env := [.v (.q ns), .v (.i A), .v (.i (U : Int)), .v (.l [.i (n : Int), .s m, .l (L.map .s)]), .v (.l (natsD dg)), .v (.s m2), .v (.l (B.map .s)), .no, .no]) (f := fun k : Nat => .i (k : Int)) (g := D.s) (R := fun (k : Nat) y => OkM m2 n y) (l := List.range (B.map D.s).length) (fun k hk => by
      have hk : k < B.length := by simpa using List.mem_range.mp hk
      obtain ⟨y, hy, ht⟩ := sp__law_thin F (a := dg.getD 9 0 + k) (many := 1 + k % 2) hm2 (by omega) (hBm _ (getD_mem' (d := []) hk)) (by omega) (by omega)
      refine ⟨_, y, putn 8, ?_, hy⟩
      conv => arg 2; whnf
      exact (xe_call F.kn__law_thin (by dsimp only [Wd.ga, Ga.blk]; decide) (xa_cons (xe_ix (xv 6) (xv 8) (itL (f := D.s) k rfl [] hk)) (xa_cons (XE.eq (xe_plus (xe_int1 F.n_int (xe_ix (xv 4) xe_int (by first | exact itWT 9 rfl rfl | exact itW 9 rfl rfl | exact itS 9 rfl (by first | omega | (simp; done) | (simp; omega) | assumption) (by first | omega | (simp; done) | (simp; omega) | assumption) | exact itN 9 rfl (by first | omega | (simp; done) | (simp; omega) | assumption) | exact itI 9 rfl (by first | omega | (simp; done) | (simp; omega) | assumption) | exact itL 9 rfl default (by first | omega | (simp; done) | (simp; omega) | assumption) | exact itT 9 rfl default (by first | omega | (simp; done) | (simp; omega) | assumption))) (by constructor)) (xv 8) (AddD.i _ _)) (d' := .i ((dg.getD 9 0 + k : Nat) : Int)) rfl) (xa_cons (XE.eq (xe_plus xe_int (xe_mod (xv 8) xe_int (by omega)) (AddD.i _ _)) (d' := .i ((1 + k % 2 : Nat) : Int)) rfl) xa_nil))) (ht)))
    have hBl2 : B2.length = L.length := by rw [hB2.len]; simpa using hBl
    have hBm2 : ∀ x ∈ B2, OkM m2 n x := fun x hx => All2.right (P := OkM m2 n) (fun _ _ h => h) hB2 x hx
    obtain ⟨F1, F2, d1, d2, q1, q2, q3, q4, hder⟩ := sp__law_derived F ns A hA0 hA hm2 n1 (by omega) hBm2 (by omega) hdg
    refine ⟨n, m2, F1, F2, d1, d2, n1, n2, hm2, by omega, by omega, q3, q4, rfl, _, .rt _, ?_⟩
    show XSs (W.ga N__law_two (defScope (top 85)) 5) (defBody (top 85)) [.v (.q ns), .v (.i A), .v (.i (U : Int)), .no, .no, .no, .no, .no, .no] _; refine xss_form ?_
    refine xss_setX 3 pt_ ⟨_, (xe_call F.kn__law_base (by dsimp only [Wd.ga, Ga.blk]; decide) (xa_cons (xv 0) (xa_cons (xv 1) (xa_cons (xv 2) xa_nil))) (hbase)), ?_⟩
    refine xss_setX 4 pt_ ⟨_, (xe_call F.kn__law_digits (by dsimp only [Wd.ga, Ga.blk]; decide) (xa_cons (xe_call F.kn__law_cell (by dsimp only [Wd.ga, Ga.blk]; decide) (xa_cons (xv 0) (xa_cons (xe_plus (xv 1) xe_int (by first | exact AddD.i _ _ | exact AddD.s _ _ (by first | omega | (simp; done) | (simp; omega) | assumption) | exact AddD.l _ _ (by first | omega | (simp; done) | (simp; omega) | assumption) | exact AddD.t _ _ (by first | omega | (simp; done) | (simp; omega) | assumption))) xa_nil)) (hc)) (xa_cons (XE.eq (xe_lst (xa_cons xe_int (xa_cons xe_int (xa_cons xe_int (xa_cons xe_int (xa_cons xe_int (xa_cons xe_int (xa_cons xe_int (xa_cons xe_int (xa_cons xe_int (xa_cons xe_int (xa_cons xe_int (xa_cons xe_int (xa_cons xe_int (xa_cons xe_int (xa_cons xe_int xa_nil))))))))))))))) (by first | omega | (simp; done) | (simp; omega) | assumption)) (d' := .l (natsD [8, 7, 7, 16, 16, 3, 3, 60, 60, 60, 3, 6, 8, 25, 4])) rfl) xa_nil)) (hd)), ?_⟩
    refine xss_setX 5 pt_ ⟨_, (xe_ix (XE.eq (xe_lst (xa_cons (xe_ix (xv 3) xe_int (itW 1 rfl rfl)) (xa_cons (xe_ix (xv 3) xe_int (itW 1 rfl rfl)) (xa_cons (xe_ix (xv 3) xe_int (itW 1 rfl rfl)) (xa_cons (xe_str (l := [122, 121, 120]) (by decide +kernel)) (xa_cons (xe_str (l := [121, 46, 122]) (by decide +kernel)) (xa_cons (xe_str (l := [122, 97, 98]) (by decide +kernel)) xa_nil)))))) (by simp)) (d' := .l ((sixM m).map .s)) rfl) (xe_ix (xv 4) xe_int (by first | exact itWT 11 rfl rfl | exact itW 11 rfl rfl | exact itS 11 rfl (by first | omega | (simp; done) | (simp; omega) | assumption) (by first | omega | (simp; done) | (simp; omega) | assumption) | exact itN 11 rfl (by first | omega | (simp; done) | (simp; omega) | assumption) | exact itI 11 rfl (by first | omega | (simp; done) | (simp; omega) | assumption) | exact itL 11 rfl default (by first | omega | (simp; done) | (simp; omega) | assumption) | exact itT 11 rfl default (by first | omega | (simp; done) | (simp; omega) | assumption))) (itL (f := D.s) (dg.getD 11 0) rfl [] h11)), ?_⟩
    rw [hme]
    refine xss_setX 6 pt_ ⟨_, (xe_lc (own := [("_law_layer", 7)]) lc_ (xi_any (xe_ix (xv 3) xe_int (itW 2 rfl rfl)) (by constructor)) (xg1 7 pt_) (by first | (simp [rangeD]; omega) | (simp; omega) | (simp; done)) hcomp), ?_⟩
    refine xss_ifX ⟨true, XT.eq (xt_eq (xe_ix (xv 4) xe_int (by first | exact itWT 10 rfl rfl | exact itW 10 rfl rfl | exact itS 10 rfl (by first | omega | (simp; done) | (simp; omega) | assumption) (by first | omega | (simp; done) | (simp; omega) | assumption) | exact itN 10 rfl (by first | omega | (simp; done) | (simp; omega) | assumption) | exact itI 10 rfl (by first | omega | (simp; done) | (simp; omega) | assumption) | exact itL 10 rfl default (by first | omega | (simp; done) | (simp; omega) | assumption) | exact itT 10 rfl default (by first | omega | (simp; done) | (simp; omega) | assumption))) xe_int (by constructor)) (by exact decide_eq_true (by omega)), fun h => ?_, fun h => ?_⟩
    · refine .nx (xss_form ?_) (e := [.v (.q ns), .v (.i A), .v (.i (U : Int)), .v (.l [.i (n : Int), .s m, .l (L.map .s)]), .v (.l (natsD dg)), .v (.s m2), .v (.l (B2.map .s)), .no, .no]) ?_
      · refine xss_setX 6 pt_ ⟨_, (xe_lc (own := [("_law_k", 8)]) lc_ (xi_range F.n_range (xe_len F.n_len (xv 6) (by first | exact LenD.l _ | exact LenD.t _ | exact LenD.q _ | exact LenD.s _ (by first | omega | (simp; done) | (simp; omega) | assumption))) (by first | omega | (simp; done) | (simp; omega) | assumption)) (xg1 8 pt_) (by first | (simp [rangeD]; omega) | (simp; omega) | (simp; done)) hcomp2), ?_⟩
        exact xss_nil
      refine xss_one (xs_ret ?_)
      exact (xe_call F.kn__law_derived (by dsimp only [Wd.ga, Ga.blk]; decide) (xa_cons (xv 0) (xa_cons (xv 1) (xa_cons (xe_ix (xv 3) xe_int (itW 0 rfl rfl)) (xa_cons (xv 5) (xa_cons (xv 6) (xa_cons (xv 4) xa_nil)))))) (hder))
    · cases h
  · obtain ⟨F1, F2, d1, d2, q1, q2, q3, q4, hder⟩ := sp__law_derived F ns A hA0 hA hm2 n1 (by omega) hBm (by omega) hdg
    refine ⟨n, m2, F1, F2, d1, d2, n1, n2, hm2, by omega, by omega, q3, q4, rfl, _, .rt _, ?_⟩
    show XSs (W.ga N__law_two (defScope (top 85)) 5) (defBody (top 85)) [.v (.q ns), .v (.i A), .v (.i (U : Int)), .no, .no, .no, .no, .no, .no] _; refine xss_form ?_
    refine xss_setX 3 pt_ ⟨_, (xe_call F.kn__law_base (by dsimp only [Wd.ga, Ga.blk]; decide) (xa_cons (xv 0) (xa_cons (xv 1) (xa_cons (xv 2) xa_nil))) (hbase)), ?_⟩
    refine xss_setX 4 pt_ ⟨_, (xe_call F.kn__law_digits (by dsimp only [Wd.ga, Ga.blk]; decide) (xa_cons (xe_call F.kn__law_cell (by dsimp only [Wd.ga, Ga.blk]; decide) (xa_cons (xv 0) (xa_cons (xe_plus (xv 1) xe_int (by first | exact AddD.i _ _ | exact AddD.s _ _ (by first | omega | (simp; done) | (simp; omega) | assumption) | exact AddD.l _ _ (by first | omega | (simp; done) | (simp; omega) | assumption) | exact AddD.t _ _ (by first | omega | (simp; done) | (simp; omega) | assumption))) xa_nil)) (hc)) (xa_cons (XE.eq (xe_lst (xa_cons xe_int (xa_cons xe_int (xa_cons xe_int (xa_cons xe_int (xa_cons xe_int (xa_cons xe_int (xa_cons xe_int (xa_cons xe_int (xa_cons xe_int (xa_cons xe_int (xa_cons xe_int (xa_cons xe_int (xa_cons xe_int (xa_cons xe_int (xa_cons xe_int xa_nil))))))))))))))) (by first | omega | (simp; done) | (simp; omega) | assumption)) (d' := .l (natsD [8, 7, 7, 16, 16, 3, 3, 60, 60, 60, 3, 6, 8, 25, 4])) rfl) xa_nil)) (hd)), ?_⟩
    refine xss_setX 5 pt_ ⟨_, (xe_ix (XE.eq (xe_lst (xa_cons (xe_ix (xv 3) xe_int (itW 1 rfl rfl)) (xa_cons (xe_ix (xv 3) xe_int (itW 1 rfl rfl)) (xa_cons (xe_ix (xv 3) xe_int (itW 1 rfl rfl)) (xa_cons (xe_str (l := [122, 121, 120]) (by decide +kernel)) (xa_cons (xe_str (l := [121, 46, 122]) (by decide +kernel)) (xa_cons (xe_str (l := [122, 97, 98]) (by decide +kernel)) xa_nil)))))) (by simp)) (d' := .l ((sixM m).map .s)) rfl) (xe_ix (xv 4) xe_int (by first | exact itWT 11 rfl rfl | exact itW 11 rfl rfl | exact itS 11 rfl (by first | omega | (simp; done) | (simp; omega) | assumption) (by first | omega | (simp; done) | (simp; omega) | assumption) | exact itN 11 rfl (by first | omega | (simp; done) | (simp; omega) | assumption) | exact itI 11 rfl (by first | omega | (simp; done) | (simp; omega) | assumption) | exact itL 11 rfl default (by first | omega | (simp; done) | (simp; omega) | assumption) | exact itT 11 rfl default (by first | omega | (simp; done) | (simp; omega) | assumption))) (itL (f := D.s) (dg.getD 11 0) rfl [] h11)), ?_⟩
    rw [hme]
    refine xss_setX 6 pt_ ⟨_, (xe_lc (own := [("_law_layer", 7)]) lc_ (xi_any (xe_ix (xv 3) xe_int (itW 2 rfl rfl)) (by constructor)) (xg1 7 pt_) (by first | (simp [rangeD]; omega) | (simp; omega) | (simp; done)) hcomp), ?_⟩
    refine xss_ifX ⟨false, XT.eq (xt_eq (xe_ix (xv 4) xe_int (by first | exact itWT 10 rfl rfl | exact itW 10 rfl rfl | exact itS 10 rfl (by first | omega | (simp; done) | (simp; omega) | assumption) (by first | omega | (simp; done) | (simp; omega) | assumption) | exact itN 10 rfl (by first | omega | (simp; done) | (simp; omega) | assumption) | exact itI 10 rfl (by first | omega | (simp; done) | (simp; omega) | assumption) | exact itL 10 rfl default (by first | omega | (simp; done) | (simp; omega) | assumption) | exact itT 10 rfl default (by first | omega | (simp; done) | (simp; omega) | assumption))) xe_int (by constructor)) (by exact decide_eq_false (by omega)), fun h => ?_, fun h => ?_⟩
    · cases h
    refine .skip ?_
    refine xss_one (xs_ret ?_)
    exact (xe_call F.kn__law_derived (by dsimp only [Wd.ga, Ga.blk]; decide) (xa_cons (xv 0) (xa_cons (xv 1) (xa_cons (xe_ix (xv 3) xe_int (itW 0 rfl rfl)) (xa_cons (xv 5) (xa_cons (xv 6) (xa_cons (xv 4) xa_nil)))))) (hder))
end
end Q8
namespace Q8
open PySem L2 PyProof.Rows
def wholeT : Tx := [119, 104, 111, 108, 101]
theorem menu_whole : ∀ i, i < 8 → menuT.getD i [] ≠ wholeT := by decide
theorem name_whole (len d k : Nat) : nameF len d k ≠ wholeT := by
  unfold nameF
  split
  · intro e
    have := congrArg List.length e
    rw [setAt_len (by show _ < 8; exact Nat.mod_lt _ (by omega))] at this
    cases this
  · exact menu_whole _ (Nat.mod_lt _ (by omega))
theorem named_whole {L : List Tx} {d : Nat} : wholeT ∉ namesT (namedF L d) := fun h => by
  obtain ⟨q, hq, e⟩ := List.mem_map.mp h
  obtain ⟨k, hk, rfl⟩ := List.mem_map.mp hq
  exact name_whole _ _ _ e
theorem press_all {m : Tx} {n : Nat} : ∀ (L : List Tx) (u : Tx), OkB m n u → (∀ x ∈ L, OkM m n x) → OkB m n (L.foldl pressF u) ∧ (L ≠ [] → OkM m n (L.foldl pressF u))
  | [], u, h, _ => ⟨h, fun z => absurd rfl z⟩
  | y :: L, u, h, hL => by
    have h1 := press_b h (hL y List.mem_cons_self)
    obtain ⟨a, b⟩ := press_all L (pressF u y) h1.b fun x hx => hL x (List.mem_cons_of_mem _ hx)
    refine ⟨a, fun _ => ?_⟩
    cases L with
    | nil => exact h1
    | cons z L => exact b (by simp)
def chainF (m : Tx) (n k : Nat) : Tx := blank k ++ m.take 2 ++ blank (n - k - 2)
theorem chain_ok {m : Tx} {n k : Nat} (hm : Mk3 m) (h : k + 2 ≤ n) : OkM m n (chainF m n k) := by
  have h1 := hm.1
  refine ⟨by simp [chainF, blank_len, h1]; omega, fun c hc => ?_, fun e => ?_⟩
  · simp only [chainF, List.mem_append] at hc
    rcases hc with (z | z) | z
    · exact .inl (blank_mem z)
    · exact .inr (List.mem_of_mem_take z)
    · exact .inl (blank_mem z)
  · have hz : at_ m 0 ∈ chainF m n k := by
      simp only [chainF, List.mem_append]
      refine .inl (.inr ?_)
      match m, h1 with
      | a :: b :: _, _ => simp [at_]
    rw [e] at hz
    exact hm.no (blank_mem hz ▸ hm.at (k := 0) (by omega))
/-- two stocks of a drawn world -/
structure TwoOk (n : Nat) (m : Tx) (a b : Sm) : Prop where
  lo : 1 ≤ n
  hi : n ≤ 30
  m3 : Mk3 m
  fa : a.length ≤ 12
  fb : b.length ≤ 12
  sm : n ≤ 5 → a.length ≤ 7 ∧ b.length ≤ 7
  la : ∀ q ∈ a, OkM m n q.2
  lb : ∀ q ∈ b, OkM m n q.2
  na : ∀ q ∈ a, OkN q.1
  nb : ∀ q ∈ b, OkN q.1
  da : (namesT a).Nodup
  db : (namesT b).Nodup
section
variable {W : Wd}
theorem toc6 (F : Wo W) {U n : Nat} {m : Tx} {B : List Tx} {dg : List Nat} (ns : List Int) (A : Int) (hA0 : 0 ≤ A) (hA : A ≤ 800) (hm3 : Mk3 m) (hn6 : 6 ≤ n) (hn : n ≤ 30) (hL : ∀ x ∈ B, OkM m n x) (hB0 : B ≠ []) (hB : B.length ≤ 8) (hh : Dig headS dg) :
    ∃ (a b : Sm), TwoOk n m a b ∧ XSs (W.ga N__law_two_or_crowd (defScope (top 86)) 6) ((defBody (top 86)).drop 6) [.v (.q ns), .v (.i A), .v (.i (U : Int)), .v (.l (natsD dg)), .v (.i (n : Int)), .v (.s m), .v (.l (B.map .s)), .no, .no, .no, .no] (.rt (.l [.i (n : Int), .s m, .l (a.map pairL), .l (b.map pairL)])) := by
  obtain ⟨F1, F2, d1, d2, q1, q2, q3, q4, hder⟩ := sp__law_derived F ns A hA0 hA hm3 (by omega) hn hL (by omega) hh
  have hnow := (press_all B (blank n) (okB_blank m n) hL).2 hB0
  refine ⟨namedF F1 d1, namedF F2 d2 ++ [(wholeT, B.foldl pressF (blank n))], ⟨by omega, hn, hm3, by rw [named_len]; omega, by rw [List.length_append, named_len]; simp; omega, fun z => by omega, fun q hq => q3 _ (named_names q hq).2, fun q hq => ?_, fun q hq => (named_names q hq).1, fun q hq => ?_, named_nd (by omega), ?_⟩, ?_⟩
  · rcases List.mem_append.mp hq with z | z
    · exact q4 _ (named_names q z).2
    · rw [List.mem_singleton.mp z]; exact hnow
  · rcases List.mem_append.mp hq with z | z
    · exact (named_names q z).1
    · rw [List.mem_singleton.mp z]; exact okN_of (x := wholeT) (by decide)
  · unfold namesT
    rw [List.map_append]
    refine List.nodup_append.mpr ⟨named_nd (by omega), by simp, fun x hx y hy => ?_⟩
    rw [List.map_cons, List.map_nil, List.mem_singleton] at hy
    rintro rfl
    rw [hy] at hx
    exact named_whole hx
  refine xss_form ?_
  refine xss_setX 7 pt_ ⟨_, (xe_call F.kn__law_derived (by dsimp only [Wd.ga, Ga.blk]; decide) (xa_cons (xv 0) (xa_cons (xv 1) (xa_cons (xv 4) (xa_cons (xv 5) (xa_cons (xv 6) (xa_cons (xv 3) xa_nil)))))) (hder)), ?_⟩
  refine xss_setX 8 pt_ ⟨_, (xe_times (xe_str (l := [45]) (by decide +kernel)) (xv 4) (by first | exact MulD.i _ _ (by first | exact Or.inl (by omega) | exact Or.inr (by omega) | assumption) | exact MulD.s _ _ _ rfl (by first | omega | (simp; done) | (simp; omega) | assumption) (by first | omega | (simp; done) | (simp; omega) | assumption) | exact MulD.l _ _ _ rfl (by first | omega | (simp; done) | (simp; omega) | assumption) (by first | omega | (simp; done) | (simp; omega) | assumption))), ?_⟩
  have eb : (List.replicate n [45]).flatten = blank n := by simp [blank]
  rw [eb]
  refine xss_foldI (S := Tx) (s := blank n) (l := B) (f := D.s) (step := pressF) (E := fun s => [.v (.q ns), .v (.i A), .v (.i (U : Int)), .v (.l (natsD dg)), .v (.i (n : Int)), .v (.s m), .v (.l (B.map .s)), .v (.l [.i (n : Int), .s m, .l ((namedF F1 d1).map pairL), .l ((namedF F2 d2).map pairL)]), .v (.s s), .no, .no]) (fun s => s.length = n) (blank_len n) (xi_any (xv 6) (XiD.l _)) (xg1 9 pt_) (fun s hs y hy => ⟨by rw [pressF_len]; exact hs, _, [.v (.q ns), .v (.i A), .v (.i (U : Int)), .v (.l (natsD dg)), .v (.i (n : Int)), .v (.s m), .v (.l (B.map .s)), .v (.l [.i (n : Int), .s m, .l ((namedF F1 d1).map pairL), .l ((namedF F2 d2).map pairL)]), .v (.s (pressF s y)), .v (.s y), .no], putn 9, ?_, by repeat (first | exact Wk.nil | refine Wk.same ?_ | refine Wk.drop ?_ | refine Wk.shl ?_ | refine Wk.shk ?_)⟩) fun _ => ?_
  · refine xss_form ?_
    refine xss_setX 8 pt_ ⟨_, (xe_call F.kn__law_press (by dsimp only [Wd.ga, Ga.blk]; decide) (xa_cons (xv 8) (xa_cons (xv 9) xa_nil)) (sp__law_press F (by rw [hs]; omega) (by rw [hs]; exact (hL y hy).len))), ?_⟩
    exact xss_nil
  refine xss_one (xs_ret ?_)
  exact (xe_lst (xa_cons (xv 4) (xa_cons (xv 5) (xa_cons (xe_ix (xv 7) xe_int (itW 2 rfl rfl)) (xa_cons (XE.eq (xe_plus (xe_ix (xv 7) xe_int (itW 3 rfl rfl)) (xe_lst (xa_cons (xe_lst (xa_cons (xe_str (l := wholeT) (by decide +kernel)) (xa_cons (xv 8) xa_nil)) (by simp)) xa_nil) (by simp)) (AddD.l _ _ (by simp [named_len]; omega))) (d' := .l ((namedF F2 d2 ++ [(wholeT, B.foldl pressF (blank n))]).map pairL)) (congrArg D.l (by rw [List.map_append]; rfl))) xa_nil)))) (by first | omega | (simp; done) | (simp; omega) | assumption))
theorem sp__law_two_or_crowd (F : Wo W) {U : Nat} (ns : List Int) (A : Int) (hA0 : 0 ≤ A) (hA : A ≤ 800) (hU : U ≤ 4) : ∃ (n : Nat) (m : Tx) (a b : Sm), TwoOk n m a b ∧ RB W N__law_two_or_crowd (defScope (top 86)) 6 (defBody (top 86)) 3 [.q ns, .i A, .i (U : Int)] (.l [.i (n : Int), .s m, .l (a.map pairL), .l (b.map pairL)]) := by
  obtain ⟨c, hc⟩ := sp__law_cellI F ns (A + 6) (by omega) (by omega)
  obtain ⟨dg, hdg, hd⟩ := sp__law_digits F c (sizes := headS) (by decide) (by decide)
  have hlen : dg.length = 15 := hdg.len
  have h13 : dg.getD 13 0 < 25 := hdg.lt 13 (by decide)
  by_cases c12 : 0 < dg.getD 12 0
  · obtain ⟨n, m, F1, F2, d1, d2, n1, n2, hm3, q1, q2, q3, q4, htwo⟩ := sp__law_two F (U := U) ns A hA0 hA (by omega)
    refine ⟨n, m, namedF F1 d1, namedF F2 d2, ⟨n1, by omega, hm3, by rw [named_len]; omega, by rw [named_len]; omega, fun _ => by rw [named_len, named_len]; omega, fun q hq => q3 _ (named_names q hq).2, fun q hq => q4 _ (named_names q hq).2, fun q hq => (named_names q hq).1, fun q hq => (named_names q hq).1, named_nd (by omega), named_nd (by omega)⟩, rfl, _, .rt _, ?_⟩
    show XSs (W.ga N__law_two_or_crowd (defScope (top 86)) 6) (defBody (top 86)) [.v (.q ns), .v (.i A), .v (.i (U : Int)), .no, .no, .no, .no, .no, .no, .no, .no] _; refine xss_form ?_
    refine xss_setX 3 pt_ ⟨_, (xe_call F.kn__law_digits (by dsimp only [Wd.ga, Ga.blk]; decide) (xa_cons (xe_call F.kn__law_cell (by dsimp only [Wd.ga, Ga.blk]; decide) (xa_cons (xv 0) (xa_cons (xe_plus (xv 1) xe_int (by first | exact AddD.i _ _ | exact AddD.s _ _ (by first | omega | (simp; done) | (simp; omega) | assumption) | exact AddD.l _ _ (by first | omega | (simp; done) | (simp; omega) | assumption) | exact AddD.t _ _ (by first | omega | (simp; done) | (simp; omega) | assumption))) xa_nil)) (hc)) (xa_cons (XE.eq (xe_lst (xa_cons xe_int (xa_cons xe_int (xa_cons xe_int (xa_cons xe_int (xa_cons xe_int (xa_cons xe_int (xa_cons xe_int (xa_cons xe_int (xa_cons xe_int (xa_cons xe_int (xa_cons xe_int (xa_cons xe_int (xa_cons xe_int (xa_cons xe_int (xa_cons xe_int xa_nil))))))))))))))) (by first | omega | (simp; done) | (simp; omega) | assumption)) (d' := .l (natsD [8, 7, 7, 16, 16, 3, 3, 60, 60, 60, 3, 6, 8, 25, 4])) rfl) xa_nil)) (hd)), ?_⟩
    refine xss_ifX ⟨true, XT.eq (xt_gt (xe_ix (xv 3) xe_int (by first | exact itWT 12 rfl rfl | exact itW 12 rfl rfl | exact itS 12 rfl (by first | omega | (simp; done) | (simp; omega) | assumption) (by first | omega | (simp; done) | (simp; omega) | assumption) | exact itN 12 rfl (by first | omega | (simp; done) | (simp; omega) | assumption) | exact itI 12 rfl (by first | omega | (simp; done) | (simp; omega) | assumption) | exact itL 12 rfl default (by first | omega | (simp; done) | (simp; omega) | assumption) | exact itT 12 rfl default (by first | omega | (simp; done) | (simp; omega) | assumption))) xe_int) (by exact decide_eq_true (by omega)), fun h => ?_, fun h => ?_⟩
    · refine .ret (xss_form ?_)
      refine xss_one (xs_ret ?_)
      exact (xe_call F.kn__law_two (by dsimp only [Wd.ga, Ga.blk]; decide) (xa_cons (xv 0) (xa_cons (xv 1) (xa_cons (xv 2) xa_nil))) (htwo))
    · cases h
  obtain ⟨n0, m, L0, n1, n2, hm3, hLl, hL0, hbase⟩ := sp__law_base F (U := U) ns A hA0 (by omega) (by omega)
  obtain ⟨B, hBl, hBm, hcr⟩ := sp__law_crowd F (m := m) (n := 6 + dg.getD 13 0) (many := 6 + dg.getD 14 0 % 3) ns (A + 20) (by omega) (by omega) (by omega) hm3 (by omega) (by omega)
  have hml := hm3.1
  by_cases c10 : dg.getD 10 0 = 0
  · generalize hN : max (6 + dg.getD 13 0) 9 = N
    have hB2 : ∀ x ∈ (List.range (B.map D.s).length).map (chainF m N), OkM m N x := fun x hx => by
      obtain ⟨k, hk, rfl⟩ := List.mem_map.mp hx
      have hk : k < B.length := by simpa using List.mem_range.mp hk
      exact chain_ok hm3 (by omega)
    have hB2l : ((List.range (B.map D.s).length).map (chainF m N)).length = B.length := by simp
    obtain ⟨a, b, hw, q5⟩ := toc6 F (U := U) ns A hA0 hA hm3 (n := N) (by omega) (by omega) hB2 (fun z => by rw [z] at hB2l; simp at hB2l; omega) (by omega) hdg
    refine ⟨N, m, a, b, hw, rfl, _, .rt _, ?_⟩
    show XSs (W.ga N__law_two_or_crowd (defScope (top 86)) 6) (defBody (top 86)) [.v (.q ns), .v (.i A), .v (.i (U : Int)), .no, .no, .no, .no, .no, .no, .no, .no] _; refine xss_form ?_
    refine xss_setX 3 pt_ ⟨_, (xe_call F.kn__law_digits (by dsimp only [Wd.ga, Ga.blk]; decide) (xa_cons (xe_call F.kn__law_cell (by dsimp only [Wd.ga, Ga.blk]; decide) (xa_cons (xv 0) (xa_cons (xe_plus (xv 1) xe_int (by first | exact AddD.i _ _ | exact AddD.s _ _ (by first | omega | (simp; done) | (simp; omega) | assumption) | exact AddD.l _ _ (by first | omega | (simp; done) | (simp; omega) | assumption) | exact AddD.t _ _ (by first | omega | (simp; done) | (simp; omega) | assumption))) xa_nil)) (hc)) (xa_cons (XE.eq (xe_lst (xa_cons xe_int (xa_cons xe_int (xa_cons xe_int (xa_cons xe_int (xa_cons xe_int (xa_cons xe_int (xa_cons xe_int (xa_cons xe_int (xa_cons xe_int (xa_cons xe_int (xa_cons xe_int (xa_cons xe_int (xa_cons xe_int (xa_cons xe_int (xa_cons xe_int xa_nil))))))))))))))) (by first | omega | (simp; done) | (simp; omega) | assumption)) (d' := .l (natsD [8, 7, 7, 16, 16, 3, 3, 60, 60, 60, 3, 6, 8, 25, 4])) rfl) xa_nil)) (hd)), ?_⟩
    refine xss_ifX ⟨false, XT.eq (xt_gt (xe_ix (xv 3) xe_int (by first | exact itWT 12 rfl rfl | exact itW 12 rfl rfl | exact itS 12 rfl (by first | omega | (simp; done) | (simp; omega) | assumption) (by first | omega | (simp; done) | (simp; omega) | assumption) | exact itN 12 rfl (by first | omega | (simp; done) | (simp; omega) | assumption) | exact itI 12 rfl (by first | omega | (simp; done) | (simp; omega) | assumption) | exact itL 12 rfl default (by first | omega | (simp; done) | (simp; omega) | assumption) | exact itT 12 rfl default (by first | omega | (simp; done) | (simp; omega) | assumption))) xe_int) (by exact decide_eq_false (by omega)), fun h => ?_, fun h => ?_⟩
    · cases h
    refine .skip (xss_form ?_)
    refine xss_setX 4 pt_ ⟨_, (XE.eq (xe_plus xe_int (xe_ix (xv 3) xe_int (by first | exact itWT 13 rfl rfl | exact itW 13 rfl rfl | exact itS 13 rfl (by first | omega | (simp; done) | (simp; omega) | assumption) (by first | omega | (simp; done) | (simp; omega) | assumption) | exact itN 13 rfl (by first | omega | (simp; done) | (simp; omega) | assumption) | exact itI 13 rfl (by first | omega | (simp; done) | (simp; omega) | assumption) | exact itL 13 rfl default (by first | omega | (simp; done) | (simp; omega) | assumption) | exact itT 13 rfl default (by first | omega | (simp; done) | (simp; omega) | assumption))) (AddD.i _ _)) (d' := .i ((6 + dg.getD 13 0 : Nat) : Int)) rfl), ?_⟩
    refine xss_setX 5 pt_ ⟨_, (xe_ix (xe_call F.kn__law_base (by dsimp only [Wd.ga, Ga.blk]; decide) (xa_cons (xv 0) (xa_cons (xv 1) (xa_cons (xv 2) xa_nil))) (hbase)) xe_int (itW 1 rfl rfl)), ?_⟩
    refine xss_setX 6 pt_ ⟨_, (xe_call F.kn__law_crowd (by dsimp only [Wd.ga, Ga.blk]; decide) (xa_cons (xv 0) (xa_cons (xe_plus (xv 1) xe_int (by first | exact AddD.i _ _ | exact AddD.s _ _ (by first | omega | (simp; done) | (simp; omega) | assumption) | exact AddD.l _ _ (by first | omega | (simp; done) | (simp; omega) | assumption) | exact AddD.t _ _ (by first | omega | (simp; done) | (simp; omega) | assumption))) (xa_cons (XE.eq (xe_plus xe_int (xe_mod (xe_int1 F.n_int (xe_ix (xv 3) xe_int (by first | exact itWT 14 rfl rfl | exact itW 14 rfl rfl | exact itS 14 rfl (by first | omega | (simp; done) | (simp; omega) | assumption) (by first | omega | (simp; done) | (simp; omega) | assumption) | exact itN 14 rfl (by first | omega | (simp; done) | (simp; omega) | assumption) | exact itI 14 rfl (by first | omega | (simp; done) | (simp; omega) | assumption) | exact itL 14 rfl default (by first | omega | (simp; done) | (simp; omega) | assumption) | exact itT 14 rfl default (by first | omega | (simp; done) | (simp; omega) | assumption))) (by constructor)) xe_int (by omega)) (AddD.i _ _)) (d' := .i ((6 + dg.getD 14 0 % 3 : Nat) : Int)) rfl) (xa_cons (xv 4) (xa_cons (xv 5) xa_nil))))) (hcr)), ?_⟩
    refine xss_ifX ⟨true, XT.eq (xt_eq (xe_ix (xv 3) xe_int (by first | exact itWT 10 rfl rfl | exact itW 10 rfl rfl | exact itS 10 rfl (by first | omega | (simp; done) | (simp; omega) | assumption) (by first | omega | (simp; done) | (simp; omega) | assumption) | exact itN 10 rfl (by first | omega | (simp; done) | (simp; omega) | assumption) | exact itI 10 rfl (by first | omega | (simp; done) | (simp; omega) | assumption) | exact itL 10 rfl default (by first | omega | (simp; done) | (simp; omega) | assumption) | exact itT 10 rfl default (by first | omega | (simp; done) | (simp; omega) | assumption))) xe_int (by constructor)) (by exact decide_eq_true (by omega)), fun h => ?_, fun h => ?_⟩
    · refine .nx (xss_form ?_) q5
      refine xss_setX 4 pt_ ⟨_, (XE.eq (xe_two (id := "max") (g := fun i j => if i < j then j else i) F.n_max (xv 4) xe_int (fun _ => call_max2 rfl)) (d' := .i ((max (6 + dg.getD 13 0) 9 : Nat) : Int)) (congrArg D.i (by split <;> omega))), ?_⟩
      rw [hN]
      refine xss_cons (xs_setLc 6 (own := [("_law_k", 10)]) lc_ rfl rfl (fun _ => rfl) (xi_range F.n_range (xe_len F.n_len (xv 6) (by first | exact LenD.l _ | exact LenD.t _ | exact LenD.q _ | exact LenD.s _ (by first | omega | (simp; done) | (simp; omega) | assumption))) (by first | omega | (simp; done) | (simp; omega) | assumption)) (xg1 10 pt_) (by first | (simp [rangeD]; omega) | (simp; omega) | (simp; done)) (comp_mapS (g := fun k : Nat => chainF m N k) (fun k hm => have hk : k < B.length := (by simpa using List.mem_range.mp hm); ⟨_, _, putn 10, (XE.eq (xe_plus (xe_plus (XE.eq (xe_times (xe_str (l := [45]) (by decide +kernel)) (xv 10) (MulD.s _ _ k rfl (by simp) (by omega))) (d' := .s (blank k)) (congrArg D.s (rep_blank _))) (XE.eq (xe_slS (xv 5) part_none (part_some xe_int) (by omega)) (d' := .s (m.take 2)) (congrArg D.s (cut_to (by omega)))) (AddD.s _ _ (by rw [blank_len]; simp; omega))) (XE.eq (xe_times (xe_str (l := [45]) (by decide +kernel)) (xe_sub (xe_sub (xv 4) (xv 10)) xe_int) (MulD.s _ _ (N - k - 2) (by omega) (by simp) (by omega))) (d' := .s (blank (N - k - 2))) (congrArg D.s (rep_blank _))) (AddD.s _ _ (by simp [blank_len]; omega))) (d' := .s (chainF m N k)) rfl), by rfl⟩))) ?_
      exact xss_nil
    · cases h
  · obtain ⟨a, b, hw, q5⟩ := toc6 F (U := U) ns A hA0 hA hm3 (n := 6 + dg.getD 13 0) (by omega) (by omega) hBm (fun z => by rw [z] at hBl; simp at hBl; omega) (by omega) hdg
    refine ⟨6 + dg.getD 13 0, m, a, b, hw, rfl, _, .rt _, ?_⟩
    show XSs (W.ga N__law_two_or_crowd (defScope (top 86)) 6) (defBody (top 86)) [.v (.q ns), .v (.i A), .v (.i (U : Int)), .no, .no, .no, .no, .no, .no, .no, .no] _; refine xss_form ?_
    refine xss_setX 3 pt_ ⟨_, (xe_call F.kn__law_digits (by dsimp only [Wd.ga, Ga.blk]; decide) (xa_cons (xe_call F.kn__law_cell (by dsimp only [Wd.ga, Ga.blk]; decide) (xa_cons (xv 0) (xa_cons (xe_plus (xv 1) xe_int (by first | exact AddD.i _ _ | exact AddD.s _ _ (by first | omega | (simp; done) | (simp; omega) | assumption) | exact AddD.l _ _ (by first | omega | (simp; done) | (simp; omega) | assumption) | exact AddD.t _ _ (by first | omega | (simp; done) | (simp; omega) | assumption))) xa_nil)) (hc)) (xa_cons (XE.eq (xe_lst (xa_cons xe_int (xa_cons xe_int (xa_cons xe_int (xa_cons xe_int (xa_cons xe_int (xa_cons xe_int (xa_cons xe_int (xa_cons xe_int (xa_cons xe_int (xa_cons xe_int (xa_cons xe_int (xa_cons xe_int (xa_cons xe_int (xa_cons xe_int (xa_cons xe_int xa_nil))))))))))))))) (by first | omega | (simp; done) | (simp; omega) | assumption)) (d' := .l (natsD [8, 7, 7, 16, 16, 3, 3, 60, 60, 60, 3, 6, 8, 25, 4])) rfl) xa_nil)) (hd)), ?_⟩
    refine xss_ifX ⟨false, XT.eq (xt_gt (xe_ix (xv 3) xe_int (by first | exact itWT 12 rfl rfl | exact itW 12 rfl rfl | exact itS 12 rfl (by first | omega | (simp; done) | (simp; omega) | assumption) (by first | omega | (simp; done) | (simp; omega) | assumption) | exact itN 12 rfl (by first | omega | (simp; done) | (simp; omega) | assumption) | exact itI 12 rfl (by first | omega | (simp; done) | (simp; omega) | assumption) | exact itL 12 rfl default (by first | omega | (simp; done) | (simp; omega) | assumption) | exact itT 12 rfl default (by first | omega | (simp; done) | (simp; omega) | assumption))) xe_int) (by exact decide_eq_false (by omega)), fun h => ?_, fun h => ?_⟩
    · cases h
    refine .skip (xss_form ?_)
    refine xss_setX 4 pt_ ⟨_, (XE.eq (xe_plus xe_int (xe_ix (xv 3) xe_int (by first | exact itWT 13 rfl rfl | exact itW 13 rfl rfl | exact itS 13 rfl (by first | omega | (simp; done) | (simp; omega) | assumption) (by first | omega | (simp; done) | (simp; omega) | assumption) | exact itN 13 rfl (by first | omega | (simp; done) | (simp; omega) | assumption) | exact itI 13 rfl (by first | omega | (simp; done) | (simp; omega) | assumption) | exact itL 13 rfl default (by first | omega | (simp; done) | (simp; omega) | assumption) | exact itT 13 rfl default (by first | omega | (simp; done) | (simp; omega) | assumption))) (AddD.i _ _)) (d' := .i ((6 + dg.getD 13 0 : Nat) : Int)) rfl), ?_⟩
    refine xss_setX 5 pt_ ⟨_, (xe_ix (xe_call F.kn__law_base (by dsimp only [Wd.ga, Ga.blk]; decide) (xa_cons (xv 0) (xa_cons (xv 1) (xa_cons (xv 2) xa_nil))) (hbase)) xe_int (itW 1 rfl rfl)), ?_⟩
    refine xss_setX 6 pt_ ⟨_, (xe_call F.kn__law_crowd (by dsimp only [Wd.ga, Ga.blk]; decide) (xa_cons (xv 0) (xa_cons (xe_plus (xv 1) xe_int (by first | exact AddD.i _ _ | exact AddD.s _ _ (by first | omega | (simp; done) | (simp; omega) | assumption) | exact AddD.l _ _ (by first | omega | (simp; done) | (simp; omega) | assumption) | exact AddD.t _ _ (by first | omega | (simp; done) | (simp; omega) | assumption))) (xa_cons (XE.eq (xe_plus xe_int (xe_mod (xe_int1 F.n_int (xe_ix (xv 3) xe_int (by first | exact itWT 14 rfl rfl | exact itW 14 rfl rfl | exact itS 14 rfl (by first | omega | (simp; done) | (simp; omega) | assumption) (by first | omega | (simp; done) | (simp; omega) | assumption) | exact itN 14 rfl (by first | omega | (simp; done) | (simp; omega) | assumption) | exact itI 14 rfl (by first | omega | (simp; done) | (simp; omega) | assumption) | exact itL 14 rfl default (by first | omega | (simp; done) | (simp; omega) | assumption) | exact itT 14 rfl default (by first | omega | (simp; done) | (simp; omega) | assumption))) (by constructor)) xe_int (by omega)) (AddD.i _ _)) (d' := .i ((6 + dg.getD 14 0 % 3 : Nat) : Int)) rfl) (xa_cons (xv 4) (xa_cons (xv 5) xa_nil))))) (hcr)), ?_⟩
    refine xss_ifX ⟨false, XT.eq (xt_eq (xe_ix (xv 3) xe_int (by first | exact itWT 10 rfl rfl | exact itW 10 rfl rfl | exact itS 10 rfl (by first | omega | (simp; done) | (simp; omega) | assumption) (by first | omega | (simp; done) | (simp; omega) | assumption) | exact itN 10 rfl (by first | omega | (simp; done) | (simp; omega) | assumption) | exact itI 10 rfl (by first | omega | (simp; done) | (simp; omega) | assumption) | exact itL 10 rfl default (by first | omega | (simp; done) | (simp; omega) | assumption) | exact itT 10 rfl default (by first | omega | (simp; done) | (simp; omega) | assumption))) xe_int (by constructor)) (by exact decide_eq_false (by omega)), fun h => ?_, fun h => ?_⟩
    · cases h
    exact .skip q5
end
end Q8
namespace Q8
open PySem L2 PyProof.Rows
/-! ### the crowded stocks -/
def numT (k : Nat) : Tx := if k < 10 then [48 + k] else [48 + k / 10, 48 + k % 10]
def cnT (k : Nat) : Tx := 99 :: numT k
def restT (c : Nat) : Tx := marksT.reverse.take c ++ marksT.reverse.drop (c + 1)
def crowdF (c : Nat) (l : List Nat) (k : Nat) : Tx × Tx := (cnT k, [at_ (restT c) k, at_ ([45] ++ marksT.reverse) (l.getD k 0 * (k % 2))])
theorem num_str : ∀ k, k < 24 → (toString ((k : Nat) : Int) : Str) = ⟨(numT k).toArray⟩ := by decide +kernel
theorem cn_inj : ∀ i, i < 24 → ∀ j, j < 24 → cnT i = cnT j → i = j := by decide +kernel
theorem cn_ok : ∀ i, i < 24 → okNb (cnT i) = true := by decide +kernel
theorem restT_len {c : Nat} (h : c < 25) : (restT c).length = 26 := by
  have hm : marksT.length = 27 := rfl
  simp [restT, hm]; omega
theorem restT_mem {c x : Nat} (h : x ∈ restT c) : x ∈ marksT := by
  rcases List.mem_append.mp h with h | h
  · exact List.mem_reverse.mp (List.mem_of_mem_take h)
  · exact List.mem_reverse.mp (List.mem_of_mem_drop h)
theorem mul2 {a k : Nat} (h : a < 27) : a * (k % 2) < ([45] ++ marksT.reverse).length := by
  show a * (k % 2) < 28
  rcases (show k % 2 = 0 ∨ k % 2 = 1 by omega) with e | e <;> rw [e] <;> omega
theorem crowd_lay {c k : Nat} {l : List Nat} (hc : c < 25) (hk : k < 24) (hl : ∀ i, i < 24 → l.getD i 0 < 27) : OkL 2 (crowdF c l k).2 ∧ (crowdF c l k).2 ≠ blank 2 := by
  have h1 : at_ (restT c) k ∈ marksT := restT_mem (at_mem (by rw [restT_len hc]; omega))
  have h2 : at_ ([45] ++ marksT.reverse) (l.getD k 0 * (k % 2)) ∈ [45] ++ marksT.reverse := at_mem (mul2 (hl k hk))
  refine ⟨⟨rfl, fun x hx => ?_⟩, fun e => ?_⟩
  · simp only [crowdF, List.mem_cons, List.not_mem_nil, or_false] at hx
    rcases hx with rfl | rfl
    · exact List.mem_cons_of_mem _ h1
    · simp only [List.mem_append, List.mem_singleton, List.mem_reverse] at h2
      rcases h2 with z | z
      · rw [z]; exact List.mem_cons_self
      · exact List.mem_cons_of_mem _ z
  · have : at_ (restT c) k = 45 := by
      have := congrArg (fun x => at_ x 0) e
      exact this
    rw [this] at h1
    exact no45 h1
theorem crowd_ok {c : Nat} {l ks : List Nat} (hc : c < 25) (hks : ∀ k ∈ ks, k < 24) (hnd : ks.Nodup) (hf : ks.length ≤ 20) (hl : ∀ i, i < 24 → l.getD i 0 < 27) : OkS 2 (ks.map (crowdF c l)) := by
  refine ⟨by omega, by omega, fun q hq => ?_, fun q hq => ?_, fun q hq => ?_, ?_, by simpa using hf⟩
  · obtain ⟨k, hk, rfl⟩ := List.mem_map.mp hq
    exact (crowd_lay hc (hks k hk) hl).1
  · obtain ⟨k, hk, rfl⟩ := List.mem_map.mp hq
    exact (crowd_lay hc (hks k hk) hl).2
  · obtain ⟨k, hk, rfl⟩ := List.mem_map.mp hq
    exact okN_of (cn_ok k (hks k hk))
  · unfold namesT
    rw [List.map_map]
    refine List.pairwise_map.mpr (List.Pairwise.imp_of_mem (fun {i j} hi hj hij e => hij ?_) hnd)
    exact cn_inj i (hks i hi) j (hks j hj) e
section
variable {W : Wd}
theorem take_range {a b : Nat} (h : a ≤ b) : (List.range b).take a = List.range a := by
  apply List.ext_getElem (by simp; omega)
  intro i h1 h2
  simp
theorem sp__law_crowds (F : Wo W) (ns : List Int) : ∃ a b : Sm, OkS 2 a ∧ OkS 2 b ∧ a.length + b.length ≤ 26 ∧ RB W N__law_crowds (defScope (top 111)) 3 (defBody (top 111)) 1 [.q ns] (.l [.l (a.map pairL), .l (b.map pairL)]) := by
  obtain ⟨c1, hc1⟩ := sp__law_cellI F ns 14 (by omega) (by omega)
  obtain ⟨c2, hc2⟩ := sp__law_cellI F ns 15 (by omega) (by omega)
  obtain ⟨l, hl, hd1⟩ := sp__law_digits F c1 (sizes := [13, 13, 25]) (by decide) (by decide)
  obtain ⟨g, hg, hd2⟩ := sp__law_digits F c2 (sizes := [27, 27, 27, 27, 27, 27, 27, 27, 27, 27, 27, 27, 27, 27, 27, 27, 27, 27, 27, 27, 27, 27, 27, 27]) (by decide) (by decide)
  have hlen : l.length = 3 := hl.len
  have hgl : g.length = 24 := hg.len
  have l0 : l.getD 0 0 < 13 := hl.lt 0 (by decide)
  have l1 : l.getD 1 0 < 13 := hl.lt 1 (by decide)
  have l2 : l.getD 2 0 < 25 := hl.lt 2 (by decide)
  have hg27 : ∀ i, i < 24 → g.getD i 0 < 27 := fun i hi => by
    have h1 := hg.lt i (by simpa using hi)
    have h2 : ([27, 27, 27, 27, 27, 27, 27, 27, 27, 27, 27, 27, 27, 27, 27, 27, 27, 27, 27, 27, 27, 27, 27, 27] : List Nat) = List.replicate 24 27 := rfl
    rw [h2, List.getD_eq_getElem?_getD (l := List.replicate 24 27), List.getElem?_replicate, if_pos hi] at h1
    exact h1
  have hm27 : marksT.length = 27 := rfl
  generalize hh0 : l.getD 0 0 = h0 at l0
  generalize hh1 : l.getD 1 0 = h1 at l1
  generalize hc : l.getD 2 0 = c at l2
  have hrl := restT_len l2
  refine ⟨(List.range h0).map (crowdF c g), ((List.range (h0 + h1)).drop h0).map (crowdF c g), crowd_ok l2 (fun k hk => by have := List.mem_range.mp hk; omega) List.nodup_range (by simp; omega) hg27, crowd_ok l2 (fun k hk => by have := List.mem_range.mp (List.mem_of_mem_drop hk); omega) ((List.drop_sublist _ _).nodup List.nodup_range) (by simp; omega) hg27, by simp; omega, rfl, _, .rt _, ?_⟩
  show XSs (W.ga N__law_crowds (defScope (top 111)) 3) (defBody (top 111)) [.v (.q ns), .no, .no, .no, .no, .no, .no] _; refine xss_form ?_
  refine xss_setX 1 pt_ ⟨_, (xe_call F.kn__law_digits (by dsimp only [Wd.ga, Ga.blk]; decide) (xa_cons (xe_call F.kn__law_cell (by dsimp only [Wd.ga, Ga.blk]; decide) (xa_cons (xv 0) (xa_cons xe_int xa_nil)) (hc1)) (xa_cons (XE.eq (xe_lst (xa_cons xe_int (xa_cons xe_int (xa_cons xe_int xa_nil))) (by first | omega | (simp; done) | (simp; omega) | assumption)) (d' := .l (natsD [13, 13, 25])) rfl) xa_nil)) (hd1)), ?_⟩
  refine xss_setX 2 pt_ ⟨_, (xe_call F.kn__law_digits (by dsimp only [Wd.ga, Ga.blk]; decide) (xa_cons (xe_call F.kn__law_cell (by dsimp only [Wd.ga, Ga.blk]; decide) (xa_cons (xv 0) (xa_cons xe_int xa_nil)) (hc2)) (xa_cons (XE.eq (xe_times (xe_lst (xa_cons xe_int xa_nil) (by first | omega | (simp; done) | (simp; omega) | assumption)) xe_int (by first | exact MulD.i _ _ (by first | exact Or.inl (by omega) | exact Or.inr (by omega) | assumption) | exact MulD.s _ _ _ rfl (by first | omega | (simp; done) | (simp; omega) | assumption) (by first | omega | (simp; done) | (simp; omega) | assumption) | exact MulD.l _ _ _ rfl (by first | omega | (simp; done) | (simp; omega) | assumption) (by first | omega | (simp; done) | (simp; omega) | assumption))) (d' := .l (natsD [27, 27, 27, 27, 27, 27, 27, 27, 27, 27, 27, 27, 27, 27, 27, 27, 27, 27, 27, 27, 27, 27, 27, 27])) rfl) xa_nil)) (hd2)), ?_⟩
  refine xss_setX 3 pt_ ⟨_, (xe_str (l := marksT.reverse) (by decide +kernel)), ?_⟩
  refine xss_setX 4 pt_ ⟨_, (XE.eq (xe_plus (XE.eq (xe_slS (xv 3) part_none (part_some (xe_ix (xv 1) xe_int (by first | exact itWT 2 rfl rfl | exact itW 2 rfl rfl | exact itS 2 rfl (by first | omega | (simp; done) | (simp; omega) | assumption) (by first | omega | (simp; done) | (simp; omega) | assumption) | exact itN 2 rfl (by first | omega | (simp; done) | (simp; omega) | assumption) | exact itI 2 rfl (by first | omega | (simp; done) | (simp; omega) | assumption) | exact itL 2 rfl default (by first | omega | (simp; done) | (simp; omega) | assumption) | exact itT 2 rfl default (by first | omega | (simp; done) | (simp; omega) | assumption)))) (by simp [hm27])) (d' := .s (marksT.reverse.take c)) (congrArg D.s (by rw [cut_to (by omega), hc]; rfl))) (XE.eq (xe_slS (xv 3) (part_some (xe_plus (xe_ix (xv 1) xe_int (by first | exact itWT 2 rfl rfl | exact itW 2 rfl rfl | exact itS 2 rfl (by first | omega | (simp; done) | (simp; omega) | assumption) (by first | omega | (simp; done) | (simp; omega) | assumption) | exact itN 2 rfl (by first | omega | (simp; done) | (simp; omega) | assumption) | exact itI 2 rfl (by first | omega | (simp; done) | (simp; omega) | assumption) | exact itL 2 rfl default (by first | omega | (simp; done) | (simp; omega) | assumption) | exact itT 2 rfl default (by first | omega | (simp; done) | (simp; omega) | assumption))) xe_int (by first | exact AddD.i _ _ | exact AddD.s _ _ (by first | omega | (simp; done) | (simp; omega) | assumption) | exact AddD.l _ _ (by first | omega | (simp; done) | (simp; omega) | assumption) | exact AddD.t _ _ (by first | omega | (simp; done) | (simp; omega) | assumption)))) part_none (by simp [hm27])) (d' := .s (marksT.reverse.drop (c + 1))) (congrArg D.s (by rw [cut_from (by omega), hc]; rfl))) (AddD.s _ _ (by simp [hm27]; omega))) (d' := .s (restT c)) rfl), ?_⟩
  refine xss_cons (xs_setN 5 (xn_lst xa_nil) pt_ (by simp)) ?_
  refine xss_foldN (S := Sm) (s := []) (l := List.range (h0 + h1)) (f := fun k : Nat => .i (k : Int)) (step := fun s k => s ++ [crowdF c g k]) (E := fun s => [.v (.q ns), .v (.l (natsD l)), .v (.l (natsD g)), .v (.s marksT.reverse), .v (.s (restT c)), .ol (s.map pairL), .no]) (fun i s => s.length ≤ i) (Nat.le_refl 0) (xi_range (n := h0 + h1) F.n_range (XE.eq (xe_plus (xe_ix (xv 1) xe_int (by first | exact itWT 0 rfl rfl | exact itW 0 rfl rfl | exact itS 0 rfl (by first | omega | (simp; done) | (simp; omega) | assumption) (by first | omega | (simp; done) | (simp; omega) | assumption) | exact itN 0 rfl (by first | omega | (simp; done) | (simp; omega) | assumption) | exact itI 0 rfl (by first | omega | (simp; done) | (simp; omega) | assumption) | exact itL 0 rfl default (by first | omega | (simp; done) | (simp; omega) | assumption) | exact itT 0 rfl default (by first | omega | (simp; done) | (simp; omega) | assumption))) (xe_ix (xv 1) xe_int (by first | exact itWT 1 rfl rfl | exact itW 1 rfl rfl | exact itS 1 rfl (by first | omega | (simp; done) | (simp; omega) | assumption) (by first | omega | (simp; done) | (simp; omega) | assumption) | exact itN 1 rfl (by first | omega | (simp; done) | (simp; omega) | assumption) | exact itI 1 rfl (by first | omega | (simp; done) | (simp; omega) | assumption) | exact itL 1 rfl default (by first | omega | (simp; done) | (simp; omega) | assumption) | exact itT 1 rfl default (by first | omega | (simp; done) | (simp; omega) | assumption))) (by first | exact AddD.i _ _ | exact AddD.s _ _ (by first | omega | (simp; done) | (simp; omega) | assumption) | exact AddD.l _ _ (by first | omega | (simp; done) | (simp; omega) | assumption) | exact AddD.t _ _ (by first | omega | (simp; done) | (simp; omega) | assumption))) (by rw [hh0, hh1]; rfl)) (by omega)) (xg1 6 pt_) (fun i s k hki hs => ?_) fun _ => ?_
  · have hk0 : k < h0 + h1 := by simpa using List.mem_range.mp (List.mem_of_getElem? hki)
    have hil : i < h0 + h1 := by simpa using (List.getElem?_eq_some_iff.mp hki).1
    have hk : k < 24 := by omega
    have hol : (s.map pairL).length < 16777216 := by simp; omega
    have hg2 := hg27 k hk
    have hgk : g.getD k 0 * (k % 2) < ([45] ++ marksT.reverse).length := mul2 hg2
    refine ⟨by simp; omega, _, [.v (.q ns), .v (.l (natsD l)), .v (.l (natsD g)), .v (.s marksT.reverse), .v (.s (restT c)), .ol ((s ++ [crowdF c g k]).map pairL), .v (.i (k : Int))], putn 6, ?_, by repeat (first | exact Wk.nil | refine Wk.same ?_ | refine Wk.drop ?_ | refine Wk.shl ?_ | refine Wk.shk ?_)⟩
    refine xss_form ?_
    refine xss_cons (xs_append 5 (xe_lst (xa_cons (XE.eq (xe_plus (xe_str (l := [99]) (by decide +kernel)) (xe_strI (n := k) (l := numT k) F.n_str (xv 6) (by omega) (num_str k hk)) (AddD.s _ _ (by unfold numT; split <;> simp))) (d' := .s (cnT k)) rfl) (xa_cons (xe_plus (xe_ix (xv 4) (xv 6) (itS k rfl (by rw [hrl]; omega) (by rw [hrl]; omega))) (xe_ix (XE.eq (xe_plus (xe_str (l := [45]) (by decide +kernel)) (xv 3) (AddD.s _ _ (by simp [hm27]))) (d' := .s ([45] ++ marksT.reverse)) rfl) (XE.eq (xe_times (xe_ix (xv 2) (xv 6) (itN k rfl (by omega))) (xe_mod (xv 6) xe_int (by omega)) (MulD.i _ _ (.inl (by omega)))) (d' := .i ((g.getD k 0 * (k % 2) : Nat) : Int)) rfl) (itS (g.getD k 0 * (k % 2)) rfl hgk (by simp [hm27]))) (AddD.s _ _ (by simp))) xa_nil)) (by first | omega | (simp; done) | (simp; omega) | assumption)) rfl rfl (by first | exact Or.inl rfl | exact Or.inr (Or.inl rfl)) hol (by decide +kernel) (by decide +kernel)) ?_
    simp only [List.set_cons_zero, List.set_cons_succ, List.map_append, List.map_cons, List.map_nil]
    exact xss_nil
  rw [fold_snoc, List.nil_append]
  refine XSs.weakL (env' := [.v (.q ns), .v (.l (natsD l)), .v (.l (natsD g)), .v (.s marksT.reverse), .v (.s (restT c)), .v (.l (((List.range (h0 + h1)).map (crowdF c g)).map pairL)), .no]) ?_ (by repeat (first | exact Wk.nil | refine Wk.same ?_ | refine Wk.drop ?_ | refine Wk.shl ?_ | refine Wk.shk ?_))
  refine xss_one (xs_ret ?_)
  exact (xe_lst (xa_cons (XE.eq (xe_slL (xv 5) part_none (part_some (XE.eq (xe_ix (xv 1) xe_int (by first | exact itWT 0 rfl rfl | exact itW 0 rfl rfl | exact itS 0 rfl (by first | omega | (simp; done) | (simp; omega) | assumption) (by first | omega | (simp; done) | (simp; omega) | assumption) | exact itN 0 rfl (by first | omega | (simp; done) | (simp; omega) | assumption) | exact itI 0 rfl (by first | omega | (simp; done) | (simp; omega) | assumption) | exact itL 0 rfl default (by first | omega | (simp; done) | (simp; omega) | assumption) | exact itT 0 rfl default (by first | omega | (simp; done) | (simp; omega) | assumption))) (d' := .i ((h0 : Nat) : Int)) (by rw [hh0])))) (d' := .l (((List.range h0).map (crowdF c g)).map pairL)) (congrArg D.l (by rw [cut_to (by omega), Int.toNat_natCast, ← List.map_take, ← List.map_take, take_range (by omega)]))) (xa_cons (XE.eq (xe_slL (xv 5) (part_some (XE.eq (xe_ix (xv 1) xe_int (by first | exact itWT 0 rfl rfl | exact itW 0 rfl rfl | exact itS 0 rfl (by first | omega | (simp; done) | (simp; omega) | assumption) (by first | omega | (simp; done) | (simp; omega) | assumption) | exact itN 0 rfl (by first | omega | (simp; done) | (simp; omega) | assumption) | exact itI 0 rfl (by first | omega | (simp; done) | (simp; omega) | assumption) | exact itL 0 rfl default (by first | omega | (simp; done) | (simp; omega) | assumption) | exact itT 0 rfl default (by first | omega | (simp; done) | (simp; omega) | assumption))) (d' := .i ((h0 : Nat) : Int)) (by rw [hh0]))) part_none) (d' := .l ((((List.range (h0 + h1)).drop h0).map (crowdF c g)).map pairL)) (congrArg D.l (by rw [cut_from (by omega), Int.toNat_natCast, ← List.map_drop, ← List.map_drop]))) xa_nil)) (by first | omega | (simp; done) | (simp; omega) | assumption))
end
end Q8
namespace Q8
open PySem L2 PyProof.Rows
theorem okF_listsL {l : Sm} (h : l.length ≤ 1000) : okF 2 (.l (l.map pairL)) = true := by
  simp only [okF, List.length_map, decide_eq_true h, Bool.true_and, List.all_eq_true]
  intro a ha
  obtain ⟨x, _, rfl⟩ := List.mem_map.mp ha
  rfl
theorem frz_listsL (l : Sm) : frz 2 (.l (l.map pairL)) = .t (l.map pairT) := by
  simp only [frz, List.map_map]; rfl
theorem okF_tups {l : Sm} (h : l.length ≤ 1000) : okF 2 (.t (l.map pairT)) = true := by
  simp only [okF, List.length_map, decide_eq_true h, Bool.true_and, List.all_eq_true]
  intro a ha
  obtain ⟨x, _, rfl⟩ := List.mem_map.mp ha
  rfl
theorem frz_tups (l : Sm) : frz 2 (.t (l.map pairT)) = .t (l.map pairT) := by
  simp only [frz, List.map_map]; rfl
/-- a strange sheet looks only at what stands somewhere -/
theorem strange_congr {n : Nat} {L M : List Tx} (h : ∀ x, x ∈ L ↔ x ∈ M) : strangeF n L = strangeF n M := by
  unfold strangeF
  refine tab_congr fun k _ => ?_
  unfold strangeM
  congr 1
  refine List.filter_congr fun m _ => decide_eq_decide.mpr (not_congr ?_)
  simp only [List.mem_map]
  exact ⟨fun ⟨x, hx, e⟩ => ⟨x, (h x).mp hx, e⟩, fun ⟨x, hx, e⟩ => ⟨x, (h x).mpr hx, e⟩⟩
theorem strange_comm (n : Nat) (L M : List Tx) : strangeF n (L ++ M) = strangeF n (M ++ L) := strange_congr fun x => by simp [or_comm]
theorem strange_twice (n : Nat) (L : List Tx) : strangeF n (L ++ L) = strangeF n L := strange_congr fun x => by simp
theorem lay_lenT (st : Sm) : (layT st).length = st.length := by simp [layT]
section
variable {W : Wd}
theorem sp__law_crowds_right (F : Wo W) (ns : List Int) : RB W N__law_crowds_right (defScope (top 112)) 6 (defBody (top 112)) 1 [.q ns] (.b true) := by
  obtain ⟨a, b, ha, hb, hab, hcr⟩ := sp__law_crowds F ns
  have fa := ha.few
  have fb := hb.few
  have hLL : ∀ x ∈ (a ++ b).map (·.2), x.length = 2 := fun x hx => by
    obtain ⟨q, hq, rfl⟩ := List.mem_map.mp hx
    rcases List.mem_append.mp hq with z | z
    · exact layL ha q z
    · exact layL hb q z
  have hLa : ∀ x ∈ a.map (·.2), x.length = 2 := fun x hx => by
    obtain ⟨q, hq, rfl⟩ := List.mem_map.mp hx
    exact layL ha q hq
  have f1 : ∀ k, k < 2 → Free (layT a ++ layT b) k := fun k _ => free_of (by simp [layT]; omega)
  have f2 : ∀ k, k < 2 → Free (layT b ++ layT a) k := fun k _ => free_of (by simp [layT]; omega)
  have fa1 : ∀ k, k < 2 → Free (a.map (·.2)) k := fun k _ => free_of (by simp; omega)
  have fab : ∀ k, k < 2 → Free ((a ++ b).map (·.2)) k := fun k _ => free_of (by simp; omega)
  have f3 : ∀ k, k < 2 → Free (layT a ++ layT a) k := fun k hk => by
    obtain ⟨m, h1, h2⟩ := fa1 k hk
    refine ⟨m, h1, fun z => h2 ?_⟩
    simpa [layT] using z
  have eab : (a ++ b).map (·.2) = layT a ++ layT b := by simp [layT]
  have eaa : a.map (·.2) = layT a := rfl
  generalize hX : strangeF 2 (layT a ++ layT b) = X
  generalize hZ : strangeF 2 (layT a) = Z
  refine ⟨rfl, _, .rt _, ?_⟩
  show XSs (W.ga N__law_crowds_right (defScope (top 112)) 6) (defBody (top 112)) [.v (.q ns), .no, .no, .no, .no, .no, .no] _; refine xss_form ?_
  refine xss_setX 1 pt_ ⟨_, (xe_call F.kn__law_crowds (by dsimp only [Wd.ga, Ga.blk]; decide) (xa_cons (xv 0) xa_nil) (hcr)), ?_⟩
  refine xss_setX 2 pt_ ⟨_, (XE.eq (xe_make F.ki_Stock (by dsimp only [Wd.ga, Ga.blk]; decide) (xa_cons xe_int (xa_cons (xe_ix (xv 1) xe_int (itW 0 rfl rfl)) xa_nil)) (si_Stock F (n := 2) ha (okF_listsL (by omega)) (frz_listsL _))) (d' := stockD 2 a) rfl), ?_⟩
  refine xss_setX 3 pt_ ⟨_, (XE.eq (xe_make F.ki_Stock (by dsimp only [Wd.ga, Ga.blk]; decide) (xa_cons xe_int (xa_cons (xe_call F.kn__law_tuples (by dsimp only [Wd.ga, Ga.blk]; decide) (xa_cons (xe_ix (xv 1) xe_int (itW 1 rfl rfl)) xa_nil) (sp__law_tuples F (by omega))) xa_nil)) (si_Stock F (n := 2) hb (okF_tups (by omega)) (frz_tups _))) (d' := stockD 2 b) rfl), ?_⟩
  refine xss_setX 4 pt_ ⟨_, (xe_call F.kn__law_strange (by dsimp only [Wd.ga, Ga.blk]; decide) (xa_cons xe_int (xa_cons (xe_lc (own := [("_law_pair", 6)]) lc_ (xi_any (XE.eq (xe_plus (xe_ix (xv 1) xe_int (itW 0 rfl rfl)) (xe_ix (xv 1) xe_int (itW 1 rfl rfl)) (AddD.l _ _ (by simp; omega))) (d' := .l ((a ++ b).map pairL)) (by rw [List.map_append])) (by constructor)) (xg1 6 pt_) (by first | (simp [rangeD]; omega) | (simp; omega) | (simp; done)) (comp_mapS (g := fun q : Tx × Tx => q.2) (fun q hm => ⟨_, _, putn 6, (xe_ix (xv 6) xe_int (by first | exact itWT 1 rfl rfl | exact itW 1 rfl rfl | exact itS 1 rfl (by first | omega | (simp; done) | (simp; omega) | assumption) (by first | omega | (simp; done) | (simp; omega) | assumption) | exact itN 1 rfl (by first | omega | (simp; done) | (simp; omega) | assumption) | exact itI 1 rfl (by first | omega | (simp; done) | (simp; omega) | assumption) | exact itL 1 rfl default (by first | omega | (simp; done) | (simp; omega) | assumption) | exact itT 1 rfl default (by first | omega | (simp; done) | (simp; omega) | assumption))), by rfl⟩))) xa_nil)) (sp__law_strange F (n := 2) (by omega) hLL (by simp; omega) fab)), ?_⟩
  refine xss_setX 5 pt_ ⟨_, (xe_call F.kn__law_strange (by dsimp only [Wd.ga, Ga.blk]; decide) (xa_cons xe_int (xa_cons (xe_lc (own := [("_law_pair", 6)]) lc_ (xi_any (xe_ix (xv 1) xe_int (itW 0 rfl rfl)) (by constructor)) (xg1 6 pt_) (by first | (simp [rangeD]; omega) | (simp; omega) | (simp; done)) (comp_mapS (g := fun q : Tx × Tx => q.2) (fun q hm => ⟨_, _, putn 6, (xe_ix (xv 6) xe_int (by first | exact itWT 1 rfl rfl | exact itW 1 rfl rfl | exact itS 1 rfl (by first | omega | (simp; done) | (simp; omega) | assumption) (by first | omega | (simp; done) | (simp; omega) | assumption) | exact itN 1 rfl (by first | omega | (simp; done) | (simp; omega) | assumption) | exact itI 1 rfl (by first | omega | (simp; done) | (simp; omega) | assumption) | exact itL 1 rfl default (by first | omega | (simp; done) | (simp; omega) | assumption) | exact itT 1 rfl default (by first | omega | (simp; done) | (simp; omega) | assumption))), by rfl⟩))) xa_nil)) (sp__law_strange F (n := 2) (by omega) hLa (by simp; omega) fa1)), ?_⟩
  rw [eab, eaa, hX, hZ]
  refine xss_ifX ⟨_, (XW.xt (xw_or (xt_not (xt_val (xe_call F.kn__law_text_told (by dsimp only [Wd.ga, Ga.blk]; decide) (xa_cons (XE.eq (xe_call F.kn_strange_sheet (by dsimp only [Wd.ga, Ga.blk]; decide) (xa_cons (xv 2) (xa_cons (xv 3) xa_nil)) (sp_strange_sheet F ha hb f1)) (d' := nameD (some X)) (by rw [← hX]; rfl)) (xa_cons (xv 4) xa_nil)) (sp__law_text_told F (m := some X))))) (fun hh1 => (xw_or1 (xt_not (xt_val (xe_call F.kn__law_text_told (by dsimp only [Wd.ga, Ga.blk]; decide) (xa_cons (XE.eq (xe_call F.kn_strange_sheet (by dsimp only [Wd.ga, Ga.blk]; decide) (xa_cons (xv 3) (xa_cons (xv 2) xa_nil)) (sp_strange_sheet F hb ha f2)) (d' := nameD (some X)) (by rw [← hX, strange_comm]; rfl)) (xa_cons (xv 4) xa_nil)) (sp__law_text_told F (m := some X))))))))), fun h => ?_, fun h => ?_⟩
  · cases h
  refine .skip ?_
  refine xss_retX ⟨_, (xe_and (xe_call F.kn__law_text_told (by dsimp only [Wd.ga, Ga.blk]; decide) (xa_cons (XE.eq (xe_call F.kn_strange_sheet (by dsimp only [Wd.ga, Ga.blk]; decide) (xa_cons (xv 2) (xa_cons (xv 2) xa_nil)) (sp_strange_sheet F ha ha f3)) (d' := nameD (some Z)) (by rw [← hZ, strange_twice]; rfl)) (xa_cons (xv 5) xa_nil)) (sp__law_text_told F (m := some Z))) (fun hh1 => (xe_bool1 (xe_call F.kn__law_stock_told (by dsimp only [Wd.ga, Ga.blk]; decide) (xa_cons (xv 2) (xa_cons xe_int (xa_cons (xe_ix (xv 1) xe_int (itW 0 rfl rfl)) xa_nil))) (sp__law_stock_told F (n := 2) (st := a) (by omega)))))), ?_⟩
  rfl
end
end Q8
namespace Q8
open PySem L2 PyProof.Rows
/-! ### the error of two sizes -/
/-- what the head tells of the error classes -/
structure Rx (W : Wd) (cs nt un se fI : Addr) : Prop where
  gs : W.mg "SizesDiffer" = some (.ref cs)
  gn : W.mg "NameTaken" = some (.ref nt)
  gu : W.mg "UnknownName" = some (.ref un)
  ge : W.mg "StampError" = some (.ref se)
  nv : W.mg "ValueError" = none
  ox : OexC W.K cs
  xf : XfC W.K cs
  one : PySem.W.findIn W.K (.ref cs) "one" = some none
  two : PySem.W.findIn W.K (.ref cs) "two" = some none
  cl : (PySem.W.clsIn W.K cs).isSome = true
  ha : PySem.W.findIn W.K (.ref cs) "__class__" = some (some (.builtin "object.__class__"))
  hn : PySem.W.specialIn W.K (.builtin "object.__class__") "__get__" = some (some (.builtin "getset_descriptor.__get__"))
  ht : PySem.W.takesIn W.K (.builtin "object.__class__") = some true
  hm : PySem.W.mroIn W.K cs (.type "object") = some true
  k1 : PySem.W.kitOne W.K (.ref cs) (.ref nt) = some false
  k2 : PySem.W.kitOne W.K (.ref cs) (.ref un) = some false
  k3 : PySem.W.kitOne W.K (.ref cs) (.type "ValueError") = some true
  k4 : PySem.W.kitOne W.K (.ref cs) (.ref cs) = some true
  e1 : PySem.W.exmOne W.K (.ref cs) (.ref cs) = some true
  e2 : PySem.W.exmOne W.K (.ref cs) (.ref se) = some true
  ii : PySem.W.findIn W.K (.ref cs) "__init__" = some (some (.ref fI))
  it : PySem.W.typeIn W.K (.ref fI) = some (.type "function")
  fi : ∃ fd, FunD W.K "__init__" "SizesDiffer.__init__" (defArgs (meth 6 0)) (defBody (meth 6 0)) (defScope (meth 6 0)) [] [] fI fd
  fc : ∃ f fd, FunD W.K "compare_stocks" "compare_stocks" (defArgs (top 53)) (defBody (top 53)) (defScope (top 53)) [] [] f fd ∧ W.mg "compare_stocks" = some (.ref f)
  fs : ∃ f fd, FunD W.K "strange_sheet" "strange_sheet" (defArgs (top 49)) (defBody (top 49)) (defScope (top 49)) [] [] f fd ∧ W.mg "strange_sheet" = some (.ref f)
/-- what the error's __init__ promises -/
def spIni (cs : Addr) : Sp := fun vs H Q _ => ∃ (a : Addr) (n m : Int), vs = [.ref a, .int n, .int m] ∧ H a = some (exo a cs none) ∧ ∀ dx H', dx ≠ a → H dx = none → H' a = some (exo a cs (some dx)) → H' dx = some (exd dx [("two", .int m), ("one", .int n)]) → (∀ b, b ≠ a → b ≠ dx → H' b = H b) → Q .non H'
section
variable {W : Wd} {cs nt un se fI : Addr}
theorem ok_ini (R : Rx W cs nt un se fI) {fd : FuncData} (F : FunD W.K "__init__" "SizesDiffer.__init__" (defArgs (meth 6 0)) (defBody (meth 6 0)) (defScope (meth 6 0)) [] [] fI fd) : FnOk W.P W.w W.K W.mg W.base CX0 1 fI fd ["self", "one", "two"] (spIni cs) := by
  refine F.ok (N := ["self", "one", "two"]) ⟨rfl, rfl, rfl, by decide +kernel, rfl, by decide +kernel, by decide +kernel⟩ (fun vs H Q E h => ?_) (fun cdv A outer s H vs Q E hr h => ⟨_, PSs.nox (pss_cons (ps_ost (pv 0) (pv 1)) (pss_one (ps_ost (pv 0) (pv 2)))), ?_⟩)
  · obtain ⟨a, n, m, rfl, _⟩ := h
    rfl
  · obtain ⟨a, n, m, rfl, hH, hq⟩ := h
    refine ⟨_, rfl, _, rfl, a, cs, rfl, R.ox, R.one, .inl ⟨hH, fun dx hdx hne => ?_⟩⟩
    refine ⟨_, rfl, _, rfl, a, cs, rfl, R.ox, R.two, .inr ⟨dx, [("one", .int n)], upd_same, by rw [upd_ne hne, upd_same], (show 1 ≤ 900 by omega), ?_⟩⟩
    refine hq dx _ hne hdx (by rw [upd_ne hne.symm, upd_same]) upd_same fun b hb hb2 => ?_
    rw [upd_ne hb2, upd_ne hb, upd_ne hb2]
/-- a def of two stocks that raises where their sizes differ -/
def spSd (E : En) (cs : Addr) : Sp := fun vs H _ Er => ∃ (n m : Int) (d1 d2 : List D) (L : List (Option Addr)), n ≠ m ∧ DenL E (hid L H) [.o 1 (.i n :: d1), .o 1 (.i m :: d2)] vs ∧ NdL L ∧ (∀ p, some p ∈ L → ∃ o, H p = some o) ∧ ∀ d H', Ex H H' → H d = none → H' d = some (.xd [("two", .int m), ("one", .int n)]) → Er (.ref cs) (some d) H'
theorem sd_end {H H3 H' : Hp} {a dx : Addr} {u : HO} {fs : List (Str × V)} (e : Ex H H3) (ha : H3 a = none) (hne : dx ≠ a) (hdx : (upd H3 a u) dx = none) (h3 : ∀ b, b ≠ a → b ≠ dx → H' b = (upd H3 a u) b) : Ex H (upd (del H' a) dx (.xd fs)) ∧ H dx = none ∧ H3 dx = none := by
  rw [upd_ne hne] at hdx
  refine ⟨fun b o hb => ?_, fresh_ex e hdx, hdx⟩
  have hb3 := e b o hb
  have n1 : b ≠ a := fun z => by rw [z, ha] at hb3; cases hb3
  have n2 : b ≠ dx := fun z => by rw [z, hdx] at hb3; cases hb3
  rw [upd_ne n2, del_ne n1, h3 b n1 n2, upd_ne n1]
  exact hb3
theorem ok_sd_compare (F : Wo W) (R : Rx W cs nt un se fI) {f : Addr} {fd : FuncData} (FD : FunD W.K "compare_stocks" "compare_stocks" (defArgs (top 53)) (defBody (top 53)) (defScope (top 53)) [] [] f fd) : FnOk W.P W.w W.K W.mg W.base (L2.CX W.P W.w) 4 f fd ["one", "two"] (spSd W.en cs) := by
  obtain ⟨fdI, FI⟩ := R.fi
  have hI := ok_ini R FI
  have bI : Binds W.K fdI ["self", "one", "two"] [] := FI.bindsN fun _ _ _ _ _ _ us hl => match us, hl with | [_, _, _], _ => rfl
  refine FD.ok (N := N_compare_stocks) ⟨rfl, rfl, rfl, by decide +kernel, rfl, by decide +kernel, by decide +kernel⟩ (fun vs H Q E h => ?_) (fun cdv A outer s H vs Q E hr h => ?_)
  · obtain ⟨n, m, d1, d2, L, _, hd, _⟩ := h
    exact hd.len
  obtain ⟨n, m, d1, d2, L, hnm, hd, nd, tr, q⟩ := h
  have ok : Rt.Ok (W.ga N_compare_stocks (defScope (top 53)) 3) ⟨A.deeper (envOfC "compare_stocks" (defScope (top 53)) s.heap.objs.size f cdv), s, H, envOfC "compare_stocks" (defScope (top 53)) s.heap.objs.size f cdv, outer, envOfC "compare_stocks" (defScope (top 53)) s.heap.objs.size f cdv :: outer, [], fun _ => true, []⟩ := ⟨hr, fun _ _ => rfl⟩
  have tk : Takes (cxOf (L2.CX W.P W.w) W.P W.w W.K W.mg W.base N_compare_stocks "compare_stocks" (defScope (top 53)) f cdv A outer s H E) (fun cls d _ H => E cls d H) := takes_of rfl rfl rfl rfl
  refine ⟨_, pss_cons (ps_if (PT.nox (pt_r ok)) (pss_one (ps_raise rfl tk (pmk_oex R.ox R.ii R.it hI (hr.mono (by omega)) bI .nil pass0 rfl R.gs (pa_cons (PE.nox (pe_r ok)) (pa_cons (PE.nox (pe_r ok)) pa_nil))))) pss_nil) pss_never, ?_⟩
  have at0 : At W.en L H _ [.v (.o 1 (.i n :: d1)), .v (.o 1 (.i m :: d2)), .no, .no, .no, .no, .no, .no] _ H := start_at (N := N_compare_stocks) hd nd tr
  refine XT.rd (t := true) (env := [.v (.o 1 (.i n :: d1)), .v (.o 1 (.i m :: d2)), .no, .no, .no, .no, .no, .no]) (XT.eq (xt_ne (xe_fld F.cf1 0 (xv 0) rfl rfl) (xe_fld F.cf1 0 (xv 1) rfl rfl) (by constructor)) (by rw [decide_eq_false hnm]; rfl)) at0 fun H1 e1 => ?_
  show (if true = true then _ else _)
  rw [if_pos rfl]
  refine XE.rd (d := .i n) (xe_fld F.cf1 0 (xv 0) rfl rfl) (at0.grow e1) fun v1 H2 e2 g1 => XE.rd (d := .i m) (xe_fld F.cf1 0 (xv 1) rfl rfl) (at0.grow (e1.trans e2)) fun v2 H3 e3 g2 => ⟨(show 2 ≤ 1000 by omega), fun a hna => ?_⟩
  simp only [Den] at g1 g2
  refine ⟨a, n, m, by rw [g1, g2]; rfl, upd_same, fun dx H' hne hdx h1 h2 h3 => ?_⟩
  obtain ⟨z1, z2, z3⟩ := sd_end (fs := [("two", .int m), ("one", .int n)]) ((e1.trans e2).trans e3) hna hne hdx h3
  exact ⟨rfl, dx, _, h1, h2, z3, q dx _ z1 z2 upd_same⟩
theorem ok_sd_strange (F : Wo W) (R : Rx W cs nt un se fI) {f : Addr} {fd : FuncData} (FD : FunD W.K "strange_sheet" "strange_sheet" (defArgs (top 49)) (defBody (top 49)) (defScope (top 49)) [] [] f fd) : FnOk W.P W.w W.K W.mg W.base (L2.CX W.P W.w) 4 f fd ["one", "two"] (spSd W.en cs) := by
  obtain ⟨fdI, FI⟩ := R.fi
  have hI := ok_ini R FI
  have bI : Binds W.K fdI ["self", "one", "two"] [] := FI.bindsN fun _ _ _ _ _ _ us hl => match us, hl with | [_, _, _], _ => rfl
  refine FD.ok (N := N_strange_sheet) ⟨rfl, rfl, rfl, by decide +kernel, rfl, by decide +kernel, by decide +kernel⟩ (fun vs H Q E h => ?_) (fun cdv A outer s H vs Q E hr h => ?_)
  · obtain ⟨n, m, d1, d2, L, _, hd, _⟩ := h
    exact hd.len
  obtain ⟨n, m, d1, d2, L, hnm, hd, nd, tr, q⟩ := h
  have ok : Rt.Ok (W.ga N_strange_sheet (defScope (top 49)) 3) ⟨A.deeper (envOfC "strange_sheet" (defScope (top 49)) s.heap.objs.size f cdv), s, H, envOfC "strange_sheet" (defScope (top 49)) s.heap.objs.size f cdv, outer, envOfC "strange_sheet" (defScope (top 49)) s.heap.objs.size f cdv :: outer, [], fun _ => true, []⟩ := ⟨hr, fun _ _ => rfl⟩
  have tk : Takes (cxOf (L2.CX W.P W.w) W.P W.w W.K W.mg W.base N_strange_sheet "strange_sheet" (defScope (top 49)) f cdv A outer s H E) (fun cls d _ H => E cls d H) := takes_of rfl rfl rfl rfl
  refine ⟨_, pss_cons (ps_if (PT.nox (pt_r ok)) (pss_one (ps_raise rfl tk (pmk_oex R.ox R.ii R.it hI (hr.mono (by omega)) bI .nil pass0 rfl R.gs (pa_cons (PE.nox (pe_r ok)) (pa_cons (PE.nox (pe_r ok)) pa_nil))))) pss_nil) pss_never, ?_⟩
  have at0 : At W.en L H _ [.v (.o 1 (.i n :: d1)), .v (.o 1 (.i m :: d2)), .no, .no] _ H := start_at (N := N_strange_sheet) hd nd tr
  refine XT.rd (t := true) (env := [.v (.o 1 (.i n :: d1)), .v (.o 1 (.i m :: d2)), .no, .no]) (XT.eq (xt_ne (xe_fld F.cf1 0 (xv 0) rfl rfl) (xe_fld F.cf1 0 (xv 1) rfl rfl) (by constructor)) (by rw [decide_eq_false hnm]; rfl)) at0 fun H1 e1 => ?_
  show (if true = true then _ else _)
  rw [if_pos rfl]
  refine XE.rd (d := .i n) (xe_fld F.cf1 0 (xv 0) rfl rfl) (at0.grow e1) fun v1 H2 e2 g1 => XE.rd (d := .i m) (xe_fld F.cf1 0 (xv 1) rfl rfl) (at0.grow (e1.trans e2)) fun v2 H3 e3 g2 => ⟨(show 2 ≤ 1000 by omega), fun a hna => ?_⟩
  simp only [Den] at g1 g2
  refine ⟨a, n, m, by rw [g1, g2]; rfl, upd_same, fun dx H' hne hdx h1 h2 h3 => ?_⟩
  obtain ⟨z1, z2, z3⟩ := sd_end (fs := [("two", .int m), ("one", .int n)]) ((e1.trans e2).trans e3) hna hne hdx h3
  exact ⟨rfl, dx, _, h1, h2, z3, q dx _ z1 z2 upd_same⟩
/-! ### asking the caught error -/
/-- isinstance of the error that the suite holds -/
def rIsX (K : PySem.W.Frag) (C a : Addr) (cls : Value) (d : Option Addr) : List V → Hp → VK → Prop := fun xs H Q => ∃ (c : V) (cv : Value) (b : Bool) (dd : Addr) (fs : List (Str × V)), xs = [.ref a, c] ∧ cls = .ref C ∧ d = some dd ∧ H dd = some (.xd fs) ∧ (∀ u, RelV c u → u = cv) ∧ PySem.W.kitOne K (.ref C) cv = some b ∧ Q (.bl b) H
theorem call_isX (R : Rx W cs nt un se fI) {X : Cx} (hK : X.K = W.K) {a : Addr} {cls : Value} {d : Option Addr} {oe : Obj} {pn : List (Addr × Obj)} (hz : Zc cls d oe) (hf : ∃ vs, oe.data = .fields vs) : CallR (X.suite a ((a, oe) :: pn)) (.builtin "isinstance") (rIsX X.K cs a cls d) := by
  intro pins s σ H xs us Q I r h
  obtain ⟨c, cv, b, dd, fs, rfl, ec, ed, hx, hcv, e, q⟩ := h
  cases r with
  | cons rx rr =>
    cases rr with
    | cons rt rr =>
      cases rr
      cases rx
      have ecv := hcv _ rt
      subst ecv
      subst ec
      subst ed
      obtain ⟨hget, _⟩ := I.pin (a, oe) (List.mem_append.mpr (.inl List.mem_cons_self))
      obtain ⟨vs, hv⟩ := hf
      have hxd : ObjOk X.prog X.w H s.heap dd (.xd fs) := I.hok dd _ hx
      obtain ⟨mA, hns, _⟩ := hxd
      obtain ⟨od, ho, _⟩ := lookIn_ns hns
      have J : PySem.W.InstAt s.heap a oe cs (some od) := ⟨hget, hz.1, by unfold PySem.W.notCls; rw [hv] <;> rfl, by rw [hz.2]; exact ho⟩
      exact PySem.W.kia_one (PySem.W.kitx_exc (K := X.K) (by rw [hK]; exact R.cl) (by rw [hK]; exact R.xf.ga) (by rw [hK]; exact R.xf.gg) (by rw [hK]; exact R.xf.exC) (by rw [hK]; exact R.ha) (by rw [hK]; exact R.hn) (by rw [hK]; exact R.ht) (by rw [hK]; exact R.hm)) I.kIn J e (fun z => nomatch z) fun tk => ⟨.bl b, H, I.kept (t' := tk) fun _ _ z => z, rfl, q⟩
/-- a slot that nothing is told of may hold anything -/
theorem At.noise {E : En} {H0 H : Hp} {L P : List (Option Addr)} {env : List Sl} {σ : L2.St} {i : Nat} (a : At E L H0 P env σ H) (h : env[i]? = some .no) (x : Option V) : At E L H0 P env (σ.set i x) H :=
  ⟨a.ex, by rw [List.length_set]; exact a.ls, a.lp, a.xt, a.nd, a.tr, fun j s hs => by
    by_cases c : i = j
    · subst c
      rw [h] at hs
      cases hs
      exact a.sl i _ h
    · rw [List.getElem?_set_ne c]
      exact a.sl j s hs⟩
theorem At.next {E : En} {H0 H : Hp} {L P : List (Option Addr)} {env : List Sl} {σ : L2.St} {d : D} {v : V} {s4 : Sl} (a : At E L H0 P env σ H) (h4 : env[4]? = some s4) (h5 : env[5]? = some .no) (hd : Den E (hid P H) d v) (x : Option V) : ∃ P', At E L H0 P' (env.set 4 (.v d)) (((σ.set 5 x).set 4 (some v)).set 5 none) H :=
  ⟨_, by
    rw [List.set_comm _ _ (by decide : 5 ≠ 4), List.set_set]
    exact At.noise (i := 5) (a.setv (i := 4) hd) (by rw [List.getElem?_set_ne (by decide)]; exact h5) none⟩
/-! ### refused -/
def RefR (ds : List D) (d : D) : Prop := ∃ (n m : Int) (d1 d2 : List D), n ≠ m ∧ ds = [.o 1 (.i n :: d1), .o 1 (.i m :: d2), .i n, .i m] ∧ d = .b true
theorem look_one (n m : Int) : List.lookup ("one" : Str) [("two", V.int m), ("one", V.int n)] = some (V.int n) := by
  have e1 : (("one" : Str) == "two") = false := by decide +kernel
  have e2 : (("one" : Str) == "one") = true := by decide +kernel
  simp only [List.lookup, e1, e2]
theorem look_two (n m : Int) : List.lookup ("two" : Str) [("two", V.int m), ("one", V.int n)] = some (V.int m) := by
  have e2 : (("two" : Str) == "two") = true := by decide +kernel
  simp only [List.lookup, e2]
theorem den_ii {Γ : Ga} {P : List (Option Addr)} {H : Hp} (ns : List Int) : DenL Γ.en (hid P H) (ns.map .i) (ns.map V.int) := denL_i.mpr rfl
theorem ok_refused (F : Wo W) (R : Rx W cs nt un se fI) {f : Addr} {fd : FuncData} (FD : FunD W.K "_law_refused" "_law_refused" (defArgs (top 113)) (defBody (top 113)) (defScope (top 113)) [] [] f fd) : FnOk W.P W.w W.K W.mg W.base CX0 5 f fd ["_law_former", "_law_latter", "_law_first", "_law_second"] (spD W.en RefR) := by
  obtain ⟨fc, fdc, FC, gc⟩ := R.fc
  obtain ⟨fs, fds, FS, gs⟩ := R.fs
  have hC := ok_sd_compare F R FC
  have hS := ok_sd_strange F R FS
  have bC : Binds W.K fdc ["one", "two"] [] := FC.bindsN fun _ _ _ _ _ _ us hl => match us, hl with | [_, _], _ => rfl
  have bS : Binds W.K fds ["one", "two"] [] := FS.bindsN fun _ _ _ _ _ _ us hl => match us, hl with | [_, _], _ => rfl
  refine FD.ok (N := N__law_refused) ⟨rfl, rfl, rfl, by decide +kernel, rfl, by decide +kernel, by decide +kernel⟩ (fun vs H Q E h => ?_) (fun cdv A outer s H vs Q E hr h => ?_)
  · obtain ⟨ds, d, L, ⟨n, m, d1, d2, _, rfl, _⟩, hd, _⟩ := h
    exact hd.len
  obtain ⟨ds, d, L, ⟨n, m, d1, d2, hnm, rfl, rfl⟩, hd, nd, tr, q⟩ := h
  have ok : Rt.Ok (W.ga N__law_refused (defScope (top 113)) 4) ⟨A.deeper (envOfC "_law_refused" (defScope (top 113)) s.heap.objs.size f cdv), s, H, envOfC "_law_refused" (defScope (top 113)) s.heap.objs.size f cdv, outer, envOfC "_law_refused" (defScope (top 113)) s.heap.objs.size f cdv :: outer, [], fun _ => true, []⟩ := ⟨hr, fun _ _ => rfl⟩
  have ndN : N__law_refused.Nodup := by decide +kernel
  refine ⟨_, PSs.nox (pss_cons (ps_r ok) (pss_cons
    (ps_try_as (i := 5) (c := .ref cs) (Wout := fun _ _ _ _ => False) (tb := fun W' => tDrop (tCallS (spSd W.en cs) (WE W') (tCons (tVar 0) (tCons (tVar 1) tNil)))) rfl rfl ndN rfl rfl ⟨rfl, by decide, .inl R.gs⟩ takes0
      (fun W' pn xe tk _ => pss_one (ps_expr (pe_callS hC hr rfl gc FC.kp bC (fun σ => passAt tk σ) (pa_cons (pv 0) (pa_cons (pv 1) pa_nil)))))
      (fun a oe cls d pn hz hf => pss_cons (ps_if (PW.pt (pw_or (pt_val (pe_callB (call_isX R rfl hz hf) rfl F.n_isinstance (by decide +kernel) (pa_cons (pv 5) (pa_cons (pe_glob (v := .ref nt) rfl R.gn rfl) pa_nil)))) (pw_or (pt_val (pe_callB (call_isX R rfl hz hf) rfl F.n_isinstance (by decide +kernel) (pa_cons (pv 5) (pa_cons (pe_glob (v := .ref un) rfl R.gu rfl) pa_nil)))) (pw_or1 (pt_not (pt_val (pe_callB (call_isX R rfl hz hf) rfl F.n_isinstance (by decide +kernel) (pa_cons (pv 5) (pa_cons (pe_bltn (v := .ty "ValueError") rfl R.nv (by decide +kernel) rfl) pa_nil))))))))) pss_never pss_nil)
        (pss_one (ps_set (i := 4) ndN rfl (.inl rfl) (pe_lst (pa_cons (pe_xf R.xf R.one hz hf (pv 5)) (pa_cons (pe_xf R.xf R.two hz hf (pv 5)) pa_nil)))))))
    (pss_cons
    (ps_try_as (i := 5) (c := .ref se) (Wout := fun _ _ _ _ => False) (tb := fun W' => tDrop (tCallS (spSd W.en cs) (WE W') (tCons (tVar 0) (tCons (tVar 1) tNil)))) rfl rfl ndN rfl rfl ⟨rfl, by decide, .inl R.ge⟩ takes0
      (fun W' pn xe tk _ => pss_one (ps_expr (pe_callS hS hr rfl gs FS.kp bS (fun σ => passAt tk σ) (pa_cons (pv 0) (pa_cons (pv 1) pa_nil)))))
      (fun a oe cls d pn hz hf => pss_cons (ps_if (PW.pt (pw_or (pt_not (pt_val (pe_callB (call_isX R rfl hz hf) rfl F.n_isinstance (by decide +kernel) (pa_cons (pv 5) (pa_cons (pe_glob (v := .ref cs) rfl R.gs rfl) pa_nil))))) (pw_or1 (pt_val (pe_callB (call_isX R rfl hz hf) rfl F.n_isinstance (by decide +kernel) (pa_cons (pv 5) (pa_cons (pe_glob (v := .ref nt) rfl R.gn rfl) pa_nil))))))) pss_never pss_nil)
        (pss_one (ps_set (i := 4) ndN rfl (.inl rfl) (pe_op op_cat (pv 4) (pe_lst (pa_cons (pe_xf R.xf R.one hz hf (pv 5)) (pa_cons (pe_xf R.xf R.two hz hf (pv 5)) pa_nil))))))))
    (pss_r ok)))), ?_⟩
  have at0 : At W.en L H _ [.v (.o 1 (.i n :: d1)), .v (.o 1 (.i m :: d2)), .v (.i n), .v (.i m), .no, .no] _ H := start_at (N := N__law_refused) hd nd tr
  refine ⟨[.v (.o 1 (.i n :: d1)), .v (.o 1 (.i m :: d2)), .v (.i n), .v (.i m), .no, .no], .nx [.v (.o 1 (.i n :: d1)), .v (.o 1 (.i m :: d2)), .v (.i n), .v (.i m), .v (.l []), .no], H, L, _, xs_set 4 (xe_lst xa_nil (by simp)) pt_, at0, fun P1 σ1 H1 at1 => ?_⟩
  obtain ⟨v0, h0, g0, _⟩ := at1.sl 0 _ rfl
  obtain ⟨v1, h1, g1, _⟩ := at1.sl 1 _ rfl
  refine ⟨v0, h0, v1, h1, n, m, d1, d2, P1, hnm, g0.cons (g1.cons DenL.nil), at1.nd, at1.tr, fun dd H2 e2 hf2 hx2 => ⟨true, R.e1, fun _ a ha => ?_, fun z => nomatch z⟩⟩
  have hl5 : (σ1.set 5 (some (.ref a)))[5]? = some (some (.ref a)) := List.getElem?_set_self (by have := at1.ls; simp at this; omega)
  refine ⟨_, hl5, .ref nt, .ref nt, false, dd, _, rfl, rfl, rfl, hx2, fun u h => h, R.k1, false, rfl, ?_⟩
  refine iteF ⟨_, hl5, .ref un, .ref un, false, dd, _, rfl, rfl, rfl, hx2, fun u h => h, R.k2, false, rfl, ?_⟩
  refine iteF ⟨_, hl5, .ty "ValueError", .type "ValueError", true, dd, _, rfl, rfl, rfl, hx2, fun u h => h, R.k3, true, rfl, ?_⟩
  refine iteF ⟨_, hl5, rfl, rfl, dd, _, .int n, rfl, hx2, look_one n m, _, hl5, rfl, rfl, dd, _, .int m, rfl, hx2, look_two n m, sz (by simp), fun p hp => ?_⟩
  obtain ⟨P2, at2⟩ := At.next ((at1.grow e2).grow (Ex.new hp)) rfl rfl (d := .l [.i n, .i m]) (den_lst (Γ := (W.ga N__law_refused (defScope (top 113)) 4)) hp (at1.grow e2).tr (den_ii (Γ := (W.ga N__law_refused (defScope (top 113)) 4)) [n, m])) (some (.ref a))
  replace at2 : At W.en L H P2 [.v (.o 1 (.i n :: d1)), .v (.o 1 (.i m :: d2)), .v (.i n), .v (.i m), .v (.l [.i n, .i m]), .no] _ _ := at2
  obtain ⟨v0, h0, g0, _⟩ := at2.sl 0 _ rfl
  obtain ⟨v1, h1, g1, _⟩ := at2.sl 1 _ rfl
  obtain ⟨vz, hz, gz, _⟩ := at2.sl 4 _ rfl
  simp only [Den] at gz
  obtain ⟨pz, vs, rfl, hpz, hvs⟩ := gz
  have evs : vs = [.int n, .int m] := denL_i (ns := [n, m]) |>.mp hvs
  subst evs
  refine ⟨v0, h0, v1, h1, n, m, d1, d2, P2, hnm, g0.cons (g1.cons DenL.nil), at2.nd, at2.tr, fun dd H4 e4 hf4 hx4 => ⟨true, R.e2, fun _ b hb => ?_, fun z => nomatch z⟩⟩
  have hl5 := List.getElem?_set_self (i := 5) (a := some (V.ref b)) (show 5 < (((σ1.set 5 (some (.ref a))).set 4 (some (.ref p))).set 5 none).length by have := at2.ls; simp at this ⊢; omega)
  have hz4 := (List.getElem?_set_ne (i := 5) (j := 4) (a := some (V.ref b)) (by decide)).trans hz
  refine ⟨_, hl5, .ref cs, .ref cs, true, dd, _, rfl, rfl, rfl, hx4, fun u h => h, R.k4, true, rfl, ?_⟩
  refine iteF ⟨_, hl5, .ref nt, .ref nt, false, dd, _, rfl, rfl, rfl, hx4, fun u h => h, R.k1, false, rfl, ?_⟩
  refine iteF ⟨_, hz4, _, hl5, rfl, rfl, dd, _, .int n, rfl, hx4, look_one n m, _, hl5, rfl, rfl, dd, _, .int m, rfl, hx4, look_two n m, sz (by simp), fun q1 hq1 => ⟨pz, q1, _, _, rfl, rfl, Ex.new hq1 _ _ (e4 _ _ (hid_sub _ _ hpz)), upd_same, sz (by simp), fun p2 hp2 => ?_⟩⟩
  obtain ⟨P3, at3⟩ := At.next (((at2.grow e4).grow (Ex.new hq1)).grow (Ex.new hp2)) rfl rfl (d := .l [.i n, .i m, .i n, .i m]) (den_lst (Γ := (W.ga N__law_refused (defScope (top 113)) 4)) hp2 ((at2.grow e4).grow (Ex.new hq1)).tr (den_ii (Γ := (W.ga N__law_refused (defScope (top 113)) 4)) [n, m, n, m])) (some (.ref b))
  refine ⟨[.v (.o 1 (.i n :: d1)), .v (.o 1 (.i m :: d2)), .v (.i n), .v (.i m), .v (.l [.i n, .i m, .i n, .i m]), .no], .rt (.b true), H, L, _, xss_one (xs_ret (XE.eq (xe_call F.kn__law_cells_told (by dsimp only [Wd.ga, Ga.blk]; decide) (xa_cons (xe_tupleL F.n_tuple (xv 4)) (xa_cons (xe_lst (xa_cons (xv 2) (xa_cons (xv 3) (xa_cons (xv 2) (xa_cons (xv 3) xa_nil)))) (by first | omega | (simp; done) | (simp; omega) | assumption)) xa_nil)) (sp__law_cells_told F (a := [n, m, n, m]) (by simp))) rfl)), at3, fun v H' e g => q v H' e g⟩
end
end Q8
namespace Q8
open PySem L2 PyProof.Rows
theorem okL_of {m : Tx} {n : Nat} {x : Tx} (hm : Mk3 m) (h : OkM m n x) : OkL n x := ⟨h.len, fun c hc => by
  rcases h.signs c hc with z | z
  · rw [z]; exact List.mem_cons_self
  · exact List.mem_cons_of_mem _ (hm.2 c z)⟩
theorem oks_of {m : Tx} {n : Nat} {st st0 : Sm} (hm : Mk3 m) (lo : 1 ≤ n) (hi : n ≤ 30) (hl : ∀ q ∈ st, OkM m n q.2) (he : namesT st = namesT st0) (hn : ∀ q ∈ st0, OkN q.1) (hd : (namesT st0).Nodup) (hf : st.length ≤ 20) : OkS n st := by
  refine ⟨lo, hi, fun q hq => okL_of hm (hl q hq), fun q hq => (hl q hq).full, fun q hq => ?_, by rw [he]; exact hd, hf⟩
  have : q.1 ∈ namesT st0 := by rw [← he]; exact List.mem_map.mpr ⟨q, hq, rfl⟩
  obtain ⟨p, hp, e⟩ := List.mem_map.mp this
  rw [← e]; exact hn p hp
theorem oks_nil {n : Nat} (lo : 1 ≤ n) (hi : n ≤ 30) : OkS n [] := ⟨lo, hi, by simp, by simp, by simp, by simp [namesT], by simp⟩
def resN (n : Nat) : Nat := if n < 30 then n + 1 else 29
theorem res_ok {n : Nat} {b : Sm} (hb : OkS n b) : OkS (resN n) (resF n b) := by
  have h1 := hb.lo
  have h2 := hb.hi
  have hn : namesT (resF n b) = namesT b := by unfold namesT resF; rw [List.map_map]; rfl
  have hlo : 1 ≤ resN n := by unfold resN; split <;> omega
  have hhi : resN n ≤ 30 := by unfold resN; split <;> omega
  refine ⟨hlo, hhi, fun q hq => ?_, fun q hq => ?_, fun q hq => ?_, by rw [hn]; exact hb.nd, by simpa [resF] using hb.few⟩
  · obtain ⟨p, hp, rfl⟩ := List.mem_map.mp hq
    unfold resN
    by_cases c : n < 30
    · simp only [if_pos c]
      exact ⟨by simp [(hb.lay p hp).len], fun x hx => by
        rcases List.mem_append.mp hx with z | z
        · exact (hb.lay p hp).signs x z
        · rw [List.mem_singleton.mp z]; exact List.mem_cons_self⟩
    · simp only [if_neg c]
      exact ⟨by simp, fun x hx => by rw [(List.mem_replicate.mp hx).2]; decide⟩
  · obtain ⟨p, hp, rfl⟩ := List.mem_map.mp hq
    unfold resN
    by_cases c : n < 30
    · simp only [if_pos c]
      intro e
      refine hb.full p hp (tx_ext (by rw [(hb.lay p hp).len, blank_len]) fun k hk => ?_)
      rw [(hb.lay p hp).len] at hk
      have : at_ (p.2 ++ [45]) k = at_ (blank (n + 1)) k := congrArg (fun x => at_ x k) e
      rw [at_blank (by omega)] at this
      rw [at_blank hk, ← this]
      simp [at_, List.getD_eq_getElem?_getD, List.getElem?_append_left (show k < p.2.length by rw [(hb.lay p hp).len]; exact hk)]
    · simp only [if_neg c]
      decide
  · obtain ⟨p, hp, rfl⟩ := List.mem_map.mp hq
    exact hb.name p hp
theorem res_ne (n : Nat) (h : n ≤ 30) : (n : Int) ≠ (resN n : Int) := by unfold resN; split <;> omega
theorem sgn_ok {n : Nat} {st : Sm} (hs : OkS n st) : ∀ q ∈ st, (∀ c ∈ q.1, c < 1114112) ∧ ∀ c ∈ q.2, c < 1114112 := fun q hq => ⟨sgn_name (hs.name q hq), fun c hc => by
  have hm : ∀ c ∈ 45 :: marksT, c < 1114112 := by decide
  exact hm c ((hs.lay q hq).signs c hc)⟩
section
variable {W : Wd}
theorem right_ok (F : Wo W) {n : Nat} {a b : Sm} (ha : OkS n a) (hb : OkS n b) (hf : ∀ k, k < n → Free (layT a ++ layT b) k) : RB W N__law_right (defScope (top 105)) 6 (defBody (top 105)) 4 [compD n a b, .i (n : Int), .l (a.map pairL), .l (b.map pairL)] (.b true) := sp__law_right F ha hb hf (rows_ok hb ha) (rows_ok ha hb) (shown_both ha hb hf).1 (shown_both ha hb hf).2
theorem law_rest (F : Wo W) (KR : Kn W "_law_refused" 5 RefR) (ns : List Int) {n N : Nat} {m : Tx} {a0 b0 a b : Sm} (ha : OkS N a) (hb : OkS N b) (hla : a.length ≤ 13) (hlb : b.length ≤ 13) (s10 : Sl) : XSs (W.ga N_law (defScope (top 114)) 12) ((defBody (top 114)).drop 11) [.v (.q ns), .v (.l [.i (n : Int), .s m, .l (a0.map pairL), .l (b0.map pairL)]), .v (.l [.i (N : Int), .l (a.map pairL), .l (b.map pairL)]), .v (.i (N : Int)), .v (.l (a.map pairL)), .v (.l (b.map pairL)), .v (.l (a.map pairL)), .v (stockD N a), .v (stockD N b), .v (compD N a b), s10, .no, .no, .no, .no] (.rt (.b true)) := by
  have hN1 := ha.lo
  have hN := ha.hi
  have fab : ∀ k, k < N → Free (layT a ++ layT b) k := fun k _ => free_of (by simp [layT]; omega)
  have fba : ∀ k, k < N → Free (layT b ++ layT a) k := fun k _ => free_of (by simp [layT]; omega)
  have hrb := res_ok hb
  obtain ⟨c17, hc17⟩ := sp__law_cellI F ns 17 (by omega) (by omega)
  obtain ⟨g17, hg17, hd17⟩ := sp__law_digits F c17 (sizes := [3]) (by decide) (by decide)
  have hl17 : g17.length = 1 := hg17.len
  have h17 : g17.getD 0 0 < 3 := hg17.lt 0 (by decide)
  have hLL : ∀ x ∈ (a ++ b).map (·.2), x.length = N := fun x hx => by
    obtain ⟨q, hq, rfl⟩ := List.mem_map.mp hx
    rcases List.mem_append.mp hq with z | z
    · exact layL ha q z
    · exact layL hb q z
  have eab : (a ++ b).map (·.2) = layT a ++ layT b := by simp [layT]
  have fLL : ∀ k, k < N → Free ((a ++ b).map (·.2)) k := by rw [eab]; exact fab
  generalize hX : strangeF N (layT a ++ layT b) = X
  refine xss_form ?_
  refine xss_ifX ⟨_, (xt_not (xt_val (xe_call F.kn__law_judged (by dsimp only [Wd.ga, Ga.blk]; decide) (xa_cons (xv 7) (xa_cons (xv 8) (xa_cons (xv 9) (xa_cons (xe_ix (xe_call F.kn__law_digits (by dsimp only [Wd.ga, Ga.blk]; decide) (xa_cons (xe_call F.kn__law_cell (by dsimp only [Wd.ga, Ga.blk]; decide) (xa_cons (xv 0) (xa_cons xe_int xa_nil)) (hc17)) (xa_cons (XE.eq (xe_lst (xa_cons xe_int xa_nil) (by first | omega | (simp; done) | (simp; omega) | assumption)) (d' := .l (natsD [3])) rfl) xa_nil)) (hd17)) xe_int (by first | exact itWT 0 rfl rfl | exact itW 0 rfl rfl | exact itS 0 rfl (by first | omega | (simp; done) | (simp; omega) | assumption) (by first | omega | (simp; done) | (simp; omega) | assumption) | exact itN 0 rfl (by first | omega | (simp; done) | (simp; omega) | assumption) | exact itI 0 rfl (by first | omega | (simp; done) | (simp; omega) | assumption) | exact itL 0 rfl default (by first | omega | (simp; done) | (simp; omega) | assumption) | exact itT 0 rfl default (by first | omega | (simp; done) | (simp; omega) | assumption))) xa_nil)))) (sp__law_judged F ha hb h17 (side_ok ha hb) (side_ok hb ha) (sheet_strange fab))))), fun h => ?_, fun h => ?_⟩
  · cases h
  refine .skip (xss_form ?_)
  refine xss_setX 11 pt_ ⟨_, (xe_call F.kn__law_resized (by dsimp only [Wd.ga, Ga.blk]; decide) (xa_cons (xv 3) (xa_cons (xv 5) xa_nil)) (sp__law_resized F hN (layL hb) (by omega))), ?_⟩
  refine xss_setX 12 pt_ ⟨_, (XE.eq (xe_make F.ki_Stock (by dsimp only [Wd.ga, Ga.blk]; decide) (xa_cons (xe_ix (xv 11) xe_int (itW 0 rfl rfl)) (xa_cons (xe_ix (xv 11) xe_int (itW 1 rfl rfl)) xa_nil)) (si_Stock F (n := resN N) (st := resF N b) hrb (okF_listsL (by simp [resF]; omega)) (frz_listsL _))) (d' := stockD (resN N) (resF N b)) rfl), ?_⟩
  refine xss_ifX ⟨_, (XW.xt (xw_or (xt_not (xt_val (xe_call KR (by dsimp only [Wd.ga, Ga.blk]; decide) (xa_cons (xv 7) (xa_cons (xv 12) (xa_cons (xv 3) (xa_cons (xe_ix (xv 11) xe_int (itW 0 rfl rfl)) xa_nil)))) ⟨(N : Int), (resN N : Int), _, _, res_ne N hN, rfl, rfl⟩))) (fun hh1 => (xw_or1 (xt_not (xt_val (xe_call KR (by dsimp only [Wd.ga, Ga.blk]; decide) (xa_cons (xv 12) (xa_cons (xv 7) (xa_cons (xe_ix (xv 11) xe_int (itW 0 rfl rfl)) (xa_cons (xv 3) xa_nil)))) ⟨(resN N : Int), (N : Int), _, _, (res_ne N hN).symm, rfl, rfl⟩))))))), fun h => ?_, fun h => ?_⟩
  · cases h
  refine .skip (xss_form ?_)
  refine xss_ifX ⟨_, (xt_not (xt_val (xe_call KR (by dsimp only [Wd.ga, Ga.blk]; decide) (xa_cons (XE.eq (xe_make F.ki_Stock (by dsimp only [Wd.ga, Ga.blk]; decide) (xa_cons (xv 3) (xa_cons (xe_lst xa_nil (by simp)) xa_nil)) (si_Stock F (n := N) (st := []) (oks_nil hN1 hN) rfl rfl)) (d' := stockD N []) rfl) (xa_cons (XE.eq (xe_make F.ki_Stock (by dsimp only [Wd.ga, Ga.blk]; decide) (xa_cons (xe_ix (xv 11) xe_int (itW 0 rfl rfl)) (xa_cons (xe_tup xa_nil (by simp)) xa_nil)) (si_Stock F (n := resN N) (st := []) (oks_nil hrb.lo hrb.hi) rfl rfl)) (d' := stockD (resN N) []) rfl) (xa_cons (xv 3) (xa_cons (xe_ix (xv 11) xe_int (itW 0 rfl rfl)) xa_nil)))) ⟨(N : Int), (resN N : Int), _, _, res_ne N hN, rfl, rfl⟩))), fun h => ?_, fun h => ?_⟩
  · cases h
  refine .skip (xss_form ?_)
  refine xss_setX 13 pt_ ⟨_, (xe_call F.kn__law_strange (by dsimp only [Wd.ga, Ga.blk]; decide) (xa_cons (xv 3) (xa_cons (xe_lc (own := [("_law_pair", 14)]) lc_ (xi_any (XE.eq (xe_plus (xv 4) (xv 5) (AddD.l _ _ (by simp; omega))) (d' := .l ((a ++ b).map pairL)) (by rw [List.map_append])) (by constructor)) (xg1 14 pt_) (by first | (simp [rangeD]; omega) | (simp; omega) | (simp; done)) (comp_mapS (g := fun q : Tx × Tx => q.2) (fun q hm => ⟨_, _, putn 14, (xe_ix (xv 14) xe_int (by first | exact itWT 1 rfl rfl | exact itW 1 rfl rfl | exact itS 1 rfl (by first | omega | (simp; done) | (simp; omega) | assumption) (by first | omega | (simp; done) | (simp; omega) | assumption) | exact itN 1 rfl (by first | omega | (simp; done) | (simp; omega) | assumption) | exact itI 1 rfl (by first | omega | (simp; done) | (simp; omega) | assumption) | exact itL 1 rfl default (by first | omega | (simp; done) | (simp; omega) | assumption) | exact itT 1 rfl default (by first | omega | (simp; done) | (simp; omega) | assumption))), by rfl⟩))) xa_nil)) (sp__law_strange F hN hLL (by simp; omega) fLL)), ?_⟩
  rw [eab, hX]
  refine xss_ifX ⟨_, (xt_not (xt_val (xe_call F.kn__law_text_told (by dsimp only [Wd.ga, Ga.blk]; decide) (xa_cons (XE.eq (xe_call F.kn_strange_sheet (by dsimp only [Wd.ga, Ga.blk]; decide) (xa_cons (xv 7) (xa_cons (xv 8) xa_nil)) (sp_strange_sheet F ha hb fab)) (d' := nameD (some X)) (by rw [← hX]; rfl)) (xa_cons (xv 13) xa_nil)) (sp__law_text_told F (m := some X))))), fun h => ?_, fun h => ?_⟩
  · cases h
  refine .skip (xss_form ?_)
  refine xss_ifX ⟨_, (XW.xt (xw_or (xt_not (xt_val (xe_call F.kn__law_text_told (by dsimp only [Wd.ga, Ga.blk]; decide) (xa_cons (XE.eq (xe_callK2 F.kk_strange_sheet (by dsimp only [Wd.ga, Ga.blk]; decide) (xv 7) (xv 8) (sp_strange_sheet F hb ha fba)) (d' := nameD (some X)) (by rw [← hX, strange_comm]; rfl)) (xa_cons (xv 13) xa_nil)) (sp__law_text_told F (m := some X))))) (fun hh1 => (xw_or1 (xt_not (xt_val (xe_call F.kn__law_crowds_right (by dsimp only [Wd.ga, Ga.blk]; decide) (xa_cons (xv 0) xa_nil) (sp__law_crowds_right F ns)))))))), fun h => ?_, fun h => ?_⟩
  · cases h
  refine .skip (xss_form ?_)
  refine xss_ifX ⟨_, (xt_not (xt_val (xe_call F.kn__law_right (by dsimp only [Wd.ga, Ga.blk]; decide) (xa_cons (xe_callK2 F.kk_compare_stocks (by dsimp only [Wd.ga, Ga.blk]; decide) (xv 8) (xv 7) (sp_compare_stocks F ha hb fab)) (xa_cons (xv 3) (xa_cons (xv 4) (xa_cons (xv 5) xa_nil)))) (right_ok F ha hb fab)))), fun h => ?_, fun h => ?_⟩
  · cases h
  refine .skip (xss_form ?_)
  refine xss_retX ⟨_, (xe_and (xe_eqSt (st := a) (xv 6) (xv 4) (sgn_ok ha)) (fun hh2 => (xe_and (xe_call F.kn__law_stock_told (by dsimp only [Wd.ga, Ga.blk]; decide) (xa_cons (xv 7) (xa_cons (xv 3) (xa_cons (xv 4) xa_nil))) (sp__law_stock_told F (by omega))) (fun hh1 => (xe_bool1 (xe_call F.kn__law_stock_told (by dsimp only [Wd.ga, Ga.blk]; decide) (xa_cons (xv 8) (xa_cons (xv 3) (xa_cons (xv 5) xa_nil))) (sp__law_stock_told F (by omega)))))))), ?_⟩
  rfl
theorem sp_law (F : Wo W) (KR : Kn W "_law_refused" 5 RefR) (ns : List Int) : RB W N_law (defScope (top 114)) 12 (defBody (top 114)) 1 [.q ns] (.b true) := by
  obtain ⟨n, m, a0, b0, hw, htoc0⟩ := sp__law_two_or_crowd F (U := 4) ns 0 (by omega) (by omega) (by omega)
  have htoc : RB W N__law_two_or_crowd (defScope (top 86)) 6 (defBody (top 86)) 3 [.q ns, .i 0, .i 4] (.l [.i (n : Int), .s m, .l (a0.map pairL), .l (b0.map pairL)]) := htoc0
  have fa0 := hw.fa
  have fb0 := hw.fb
  have hn1 := hw.lo
  have hn2 := hw.hi
  obtain ⟨N, L', hN1, hN, hLl, hL, hwid⟩ := sp__law_widened_two F (m := m) (n := n) (a := a0) (b := b0) ns 13 (by omega) (by omega) hn1 hn2 hw.la hw.lb (by omega) (by omega)
  have ha : OkS N (reF a0 L' 0) := oks_of hw.m3 hN1 hN (fun q hq => hL _ (re_mem (by omega) q hq)) (re_names _ _ _) hw.na hw.da (by rw [re_len]; omega)
  have hb : OkS N (reF b0 L' a0.length) := oks_of hw.m3 hN1 hN (fun q hq => hL _ (re_mem (by omega) q hq)) (re_names _ _ _) hw.nb hw.db (by rw [re_len]; omega)
  have hla : (reF a0 L' 0).length = a0.length := re_len _ _ _
  have hlb : (reF b0 L' a0.length).length = b0.length := re_len _ _ _
  generalize reF a0 L' 0 = a at ha hla hwid
  generalize reF b0 L' a0.length = b at hb hlb hwid
  have rest := law_rest (n := n) (m := m) (a0 := a0) (b0 := b0) F KR ns ha hb (by omega) (by omega)
  have fab : ∀ k, k < N → Free (layT a ++ layT b) k := fun k _ => free_of (by simp [layT]; omega)
  have fba : ∀ k, k < N → Free (layT b ++ layT a) k := fun k _ => free_of (by simp [layT]; omega)
  obtain ⟨c16, hc16⟩ := sp__law_cellI F ns 16 (by omega) (by omega)
  obtain ⟨g16, hg16, hd16⟩ := sp__law_digits F c16 (sizes := [4, 4, 4, 4, 4, 4, 4, 4, 4, 4, 4, 4, 4, 4, 4, 4, 4, 4, 4, 4, 4, 4, 4, 4, 4, 4, 4, 4, 4, 4]) (by decide) (by decide)
  obtain ⟨S, hS, hsh⟩ := sp__law_sheet F (n := N) (l := g16) hw.m3 (by rw [hg16.len]; exact hN) hN
  refine ⟨rfl, _, .rt _, ?_⟩
  show XSs (W.ga N_law (defScope (top 114)) 12) (defBody (top 114)) [.v (.q ns), .no, .no, .no, .no, .no, .no, .no, .no, .no, .no, .no, .no, .no, .no] _; refine xss_form ?_
  refine xss_setX 1 pt_ ⟨_, (xe_call F.kn__law_two_or_crowd (by dsimp only [Wd.ga, Ga.blk]; decide) (xa_cons (xv 0) (xa_cons xe_int (xa_cons xe_int xa_nil))) (htoc)), ?_⟩
  refine xss_setX 2 pt_ ⟨_, (xe_call F.kn__law_widened_two (by dsimp only [Wd.ga, Ga.blk]; decide) (xa_cons (xv 0) (xa_cons xe_int (xa_cons xe_int (xa_cons (xe_ix (xv 1) xe_int (by first | exact itWT 0 rfl rfl | exact itW 0 rfl rfl | exact itS 0 rfl (by first | omega | (simp; done) | (simp; omega) | assumption) (by first | omega | (simp; done) | (simp; omega) | assumption) | exact itN 0 rfl (by first | omega | (simp; done) | (simp; omega) | assumption) | exact itI 0 rfl (by first | omega | (simp; done) | (simp; omega) | assumption) | exact itL 0 rfl default (by first | omega | (simp; done) | (simp; omega) | assumption) | exact itT 0 rfl default (by first | omega | (simp; done) | (simp; omega) | assumption))) (xa_cons (xe_ix (xv 1) xe_int (by first | exact itWT 2 rfl rfl | exact itW 2 rfl rfl | exact itS 2 rfl (by first | omega | (simp; done) | (simp; omega) | assumption) (by first | omega | (simp; done) | (simp; omega) | assumption) | exact itN 2 rfl (by first | omega | (simp; done) | (simp; omega) | assumption) | exact itI 2 rfl (by first | omega | (simp; done) | (simp; omega) | assumption) | exact itL 2 rfl default (by first | omega | (simp; done) | (simp; omega) | assumption) | exact itT 2 rfl default (by first | omega | (simp; done) | (simp; omega) | assumption))) (xa_cons (xe_ix (xv 1) xe_int (by first | exact itWT 3 rfl rfl | exact itW 3 rfl rfl | exact itS 3 rfl (by first | omega | (simp; done) | (simp; omega) | assumption) (by first | omega | (simp; done) | (simp; omega) | assumption) | exact itN 3 rfl (by first | omega | (simp; done) | (simp; omega) | assumption) | exact itI 3 rfl (by first | omega | (simp; done) | (simp; omega) | assumption) | exact itL 3 rfl default (by first | omega | (simp; done) | (simp; omega) | assumption) | exact itT 3 rfl default (by first | omega | (simp; done) | (simp; omega) | assumption))) xa_nil)))))) (hwid)), ?_⟩
  refine xss_setX 3 pt_ ⟨_, (xe_ix (xv 2) xe_int (by first | exact itWT 0 rfl rfl | exact itW 0 rfl rfl | exact itS 0 rfl (by first | omega | (simp; done) | (simp; omega) | assumption) (by first | omega | (simp; done) | (simp; omega) | assumption) | exact itN 0 rfl (by first | omega | (simp; done) | (simp; omega) | assumption) | exact itI 0 rfl (by first | omega | (simp; done) | (simp; omega) | assumption) | exact itL 0 rfl default (by first | omega | (simp; done) | (simp; omega) | assumption) | exact itT 0 rfl default (by first | omega | (simp; done) | (simp; omega) | assumption))), ?_⟩
  refine xss_setX 4 pt_ ⟨_, (xe_ix (xv 2) xe_int (by first | exact itWT 1 rfl rfl | exact itW 1 rfl rfl | exact itS 1 rfl (by first | omega | (simp; done) | (simp; omega) | assumption) (by first | omega | (simp; done) | (simp; omega) | assumption) | exact itN 1 rfl (by first | omega | (simp; done) | (simp; omega) | assumption) | exact itI 1 rfl (by first | omega | (simp; done) | (simp; omega) | assumption) | exact itL 1 rfl default (by first | omega | (simp; done) | (simp; omega) | assumption) | exact itT 1 rfl default (by first | omega | (simp; done) | (simp; omega) | assumption))), ?_⟩
  refine xss_setX 5 pt_ ⟨_, (xe_ix (xv 2) xe_int (by first | exact itWT 2 rfl rfl | exact itW 2 rfl rfl | exact itS 2 rfl (by first | omega | (simp; done) | (simp; omega) | assumption) (by first | omega | (simp; done) | (simp; omega) | assumption) | exact itN 2 rfl (by first | omega | (simp; done) | (simp; omega) | assumption) | exact itI 2 rfl (by first | omega | (simp; done) | (simp; omega) | assumption) | exact itL 2 rfl default (by first | omega | (simp; done) | (simp; omega) | assumption) | exact itT 2 rfl default (by first | omega | (simp; done) | (simp; omega) | assumption))), ?_⟩
  refine xss_setX 6 pt_ ⟨_, (xe_call F.kn__law_copy (by dsimp only [Wd.ga, Ga.blk]; decide) (xa_cons (xv 4) xa_nil) (sp__law_copy F (by omega))), ?_⟩
  refine xss_setX 7 pt_ ⟨_, (XE.eq (xe_make F.ki_Stock (by dsimp only [Wd.ga, Ga.blk]; decide) (xa_cons (xv 3) (xa_cons (xv 6) xa_nil)) (si_Stock F ha (okF_listsL (by omega)) (frz_listsL _))) (d' := stockD N a) rfl), ?_⟩
  refine xss_setX 8 pt_ ⟨_, (XE.eq (xe_make F.ki_Stock (by dsimp only [Wd.ga, Ga.blk]; decide) (xa_cons (xv 3) (xa_cons (xe_call F.kn__law_tuples (by dsimp only [Wd.ga, Ga.blk]; decide) (xa_cons (xv 5) xa_nil) (sp__law_tuples F (by omega))) xa_nil)) (si_Stock F hb (okF_tups (by omega)) (frz_tups _))) (d' := stockD N b) rfl), ?_⟩
  refine xss_setX 9 pt_ ⟨_, (xe_call F.kn_compare_stocks (by dsimp only [Wd.ga, Ga.blk]; decide) (xa_cons (xv 7) (xa_cons (xv 8) xa_nil)) (sp_compare_stocks F ha hb fab)), ?_⟩
  refine xss_ifX ⟨_, (XW.xt (xw_or (xt_not (xt_val (xe_call F.kn__law_right (by dsimp only [Wd.ga, Ga.blk]; decide) (xa_cons (xv 9) (xa_cons (xv 3) (xa_cons (xv 4) (xa_cons (xv 5) xa_nil)))) (right_ok F ha hb fab)))) (fun hh1 => (xw_or1 (xt_not (xt_val (xe_call F.kn__law_right (by dsimp only [Wd.ga, Ga.blk]; decide) (xa_cons (xe_call F.kn_compare_stocks (by dsimp only [Wd.ga, Ga.blk]; decide) (xa_cons (xv 8) (xa_cons (xv 7) xa_nil)) (sp_compare_stocks F hb ha fba)) (xa_cons (xv 3) (xa_cons (xv 5) (xa_cons (xv 4) xa_nil)))) (right_ok F hb ha fba)))))))), fun h => ?_, fun h => ?_⟩
  · cases h
  refine .skip (xss_form ?_)
  by_cases h5 : n ≤ 5
  · have hsm := hw.sm h5
    have l7a : a.length ≤ 7 := by omega
    have l7b : b.length ≤ 7 := by omega
    have faa : ∀ k, k < N → Free (layT a ++ layT a) k := fun k _ => free_of (by simp [layT]; omega)
    have fbb : ∀ k, k < N → Free (layT b ++ layT b) k := fun k _ => free_of (by simp [layT]; omega)
    refine xss_ifX ⟨true, XT.eq (xt_le (xe_ix (xv 1) xe_int (by first | exact itWT 0 rfl rfl | exact itW 0 rfl rfl | exact itS 0 rfl (by first | omega | (simp; done) | (simp; omega) | assumption) (by first | omega | (simp; done) | (simp; omega) | assumption) | exact itN 0 rfl (by first | omega | (simp; done) | (simp; omega) | assumption) | exact itI 0 rfl (by first | omega | (simp; done) | (simp; omega) | assumption) | exact itL 0 rfl default (by first | omega | (simp; done) | (simp; omega) | assumption) | exact itT 0 rfl default (by first | omega | (simp; done) | (simp; omega) | assumption))) xe_int) (by exact decide_eq_true (by omega)), fun h => ?_, fun h => ?_⟩
    · refine .nx (xss_form ?_) (rest (.v (.s S)))
      refine xss_setX 10 pt_ ⟨_, (xe_call F.kn__law_sheet (by dsimp only [Wd.ga, Ga.blk]; decide) (xa_cons (xe_ix (xv 1) xe_int (by first | exact itWT 1 rfl rfl | exact itW 1 rfl rfl | exact itS 1 rfl (by first | omega | (simp; done) | (simp; omega) | assumption) (by first | omega | (simp; done) | (simp; omega) | assumption) | exact itN 1 rfl (by first | omega | (simp; done) | (simp; omega) | assumption) | exact itI 1 rfl (by first | omega | (simp; done) | (simp; omega) | assumption) | exact itL 1 rfl default (by first | omega | (simp; done) | (simp; omega) | assumption) | exact itT 1 rfl default (by first | omega | (simp; done) | (simp; omega) | assumption))) (xa_cons (xe_call F.kn__law_digits (by dsimp only [Wd.ga, Ga.blk]; decide) (xa_cons (xe_call F.kn__law_cell (by dsimp only [Wd.ga, Ga.blk]; decide) (xa_cons (xv 0) (xa_cons xe_int xa_nil)) (hc16)) (xa_cons (XE.eq (xe_times (xe_lst (xa_cons xe_int xa_nil) (by first | omega | (simp; done) | (simp; omega) | assumption)) xe_int (by first | exact MulD.i _ _ (by first | exact Or.inl (by omega) | exact Or.inr (by omega) | assumption) | exact MulD.s _ _ _ rfl (by first | omega | (simp; done) | (simp; omega) | assumption) (by first | omega | (simp; done) | (simp; omega) | assumption) | exact MulD.l _ _ _ rfl (by first | omega | (simp; done) | (simp; omega) | assumption) (by first | omega | (simp; done) | (simp; omega) | assumption))) (d' := .l (natsD [4, 4, 4, 4, 4, 4, 4, 4, 4, 4, 4, 4, 4, 4, 4, 4, 4, 4, 4, 4, 4, 4, 4, 4, 4, 4, 4, 4, 4, 4])) rfl) xa_nil)) (hd16)) (xa_cons (xv 3) xa_nil))) (hsh)), ?_⟩
      refine xss_ifX ⟨_, (xt_not (xt_val (xe_call F.kn__law_forwards (by dsimp only [Wd.ga, Ga.blk]; decide) (xa_cons (xv 9) (xa_cons (xv 3) (xa_cons (xv 4) (xa_cons (xv 5) (xa_cons (xv 10) xa_nil))))) (sp__law_forwards F ha hb hS fab (fwd_ok ha hb l7a l7b fab hS))))), fun h => ?_, fun h => ?_⟩
      · cases h
      refine .skip (xss_form ?_)
      refine xss_ifX ⟨_, (xt_not (xt_val (xe_call F.kn__law_right (by dsimp only [Wd.ga, Ga.blk]; decide) (xa_cons (xe_call F.kn_compare_stocks (by dsimp only [Wd.ga, Ga.blk]; decide) (xa_cons (xv 7) (xa_cons (xv 7) xa_nil)) (sp_compare_stocks F ha ha faa)) (xa_cons (xv 3) (xa_cons (xv 4) (xa_cons (xv 4) xa_nil)))) (right_ok F ha ha faa)))), fun h => ?_, fun h => ?_⟩
      · cases h
      refine .skip (xss_form ?_)
      refine xss_ifX ⟨_, (xt_not (xt_val (xe_call F.kn__law_right (by dsimp only [Wd.ga, Ga.blk]; decide) (xa_cons (xe_call F.kn_compare_stocks (by dsimp only [Wd.ga, Ga.blk]; decide) (xa_cons (xv 8) (xa_cons (xv 8) xa_nil)) (sp_compare_stocks F hb hb fbb)) (xa_cons (xv 3) (xa_cons (xv 5) (xa_cons (xv 5) xa_nil)))) (right_ok F hb hb fbb)))), fun h => ?_, fun h => ?_⟩
      · cases h
      exact .skip xss_nil
    · cases h
  · refine xss_ifX ⟨false, XT.eq (xt_le (xe_ix (xv 1) xe_int (by first | exact itWT 0 rfl rfl | exact itW 0 rfl rfl | exact itS 0 rfl (by first | omega | (simp; done) | (simp; omega) | assumption) (by first | omega | (simp; done) | (simp; omega) | assumption) | exact itN 0 rfl (by first | omega | (simp; done) | (simp; omega) | assumption) | exact itI 0 rfl (by first | omega | (simp; done) | (simp; omega) | assumption) | exact itL 0 rfl default (by first | omega | (simp; done) | (simp; omega) | assumption) | exact itT 0 rfl default (by first | omega | (simp; done) | (simp; omega) | assumption))) xe_int) (by exact decide_eq_false (by omega)), fun h => ?_, fun h => ?_⟩
    · cases h
    exact .skip (rest .no)
end
end Q8
/-! From the head's facts to the standing facts of the walks. -/
namespace Q8
open PySem L2 PyProof.Rows
abbrev wdQ (P : Program) (w : World) (K : PySem.W.Frag) (mg : Str → Option Value) (base : Heap) : Wd := ⟨P, w, K, mg, base, clQ K⟩
section
variable {W : Wd} {h : Heap} {x qual m : Str} {params : Arguments} {body : List Stmt} {scope : Scope} {N ps : List Str} {k ci : Nat}
abbrev BindsP (x qual : Str) (params : Arguments) (body : List Stmt) (scope : Scope) (ps : List Str) : Prop := ∀ (kV doc pm : Value) (an : Option Addr) (cdv ct : Value) (us : List Value), us.length = ps.length → bindArgs (PySem.W.fnOf x qual params body scope .none kV doc pm an cdv ct) ⟨us, []⟩ = pure (ps.zip us)
theorem kn_gen (X : W.K.In h) (G : h.Ns mainGlobals W.mg) (c : He.SaysD faQ fnQ W.K) (i : Nat) (hi : fnQ[i]? = some ⟨(x, none), x, x, params, body, scope, [], []⟩) (j : Nat) (hj : faQ[j]? = some (.glo x)) (S : FnScope N ps scope) (hb : BindsP x x params body scope ps) : Kn W x (k + 1) (RB W N scope k body ps.length) := by
  obtain ⟨fd, F⟩ := c.def_ i hi
  have F : FunD W.K x x params body scope [] [] (He.ga W.K x) fd := F
  exact kn_mk F (He.glo_ok X G (c.fact j hj)) S (F.bindsN hb) fun ds d z => z
theorem kni_gen (X : W.K.In h) (G : h.Ns mainGlobals W.mg) (c : He.SaysD faQ fnQ W.K) (i : Nat) (hi : fnQ[i]? = some ⟨(x, some "__init__"), "__init__", qual, params, body, scope, [], []⟩) (j : Nat) (hj : faQ[j]? = some (.glo x)) (l : Nat) (hl : faQ[l]? = some (.mkr x)) (hc : W.cl ci = He.ga W.K x) (S : FnScope N ps scope) (hb : BindsP "__init__" qual params body scope ps) (hN : 0 < N.length) : KnI W x ci (k + 1) (RI W N scope k body ps.length ci) := by
  obtain ⟨fd, F⟩ := c.def_ i hi
  have F : FunD W.K "__init__" qual params body scope [] [] (He.ma W.K (He.ga W.K x) "__init__") fd := F
  exact kni_mk F (by rw [hc]; exact He.glo_ok X G (c.fact j hj)) (by rw [hc]; exact He.mkr_ok (c.fact l hl)) S (F.bindsN hb) hN fun as ds z => z
theorem knm_gen (c : He.SaysD faQ fnQ W.K) (i : Nat) (hi : fnQ[i]? = some ⟨("Stock", some m), m, qual, params, body, scope, [], []⟩) (j : Nat) (hj : faQ[j]? = some (.meth "Stock" m)) (hc : W.cl 1 = He.ga W.K "Stock") (S : FnScope N ps scope) (hb : BindsP m qual params body scope ps) : KnM W 1 m (k + 1) (RB W N scope k body ps.length) := by
  obtain ⟨fd, F⟩ := c.def_ i hi
  have F : FunD W.K m qual params body scope [] [] (He.ma W.K (He.ga W.K "Stock") m) fd := F
  exact ⟨_, fd, ps, fn_mk F S fun ds d z => z, by rw [hc]; exact He.meth_ok (c.fact j hj), F.bindsN hb⟩
theorem vals_rev : ∀ {vs : List V} {us : List Value}, Vals vs us → Vals vs.reverse us.reverse
  | _, _, .nil => .nil
  | _, _, .cons r t => by
    rw [List.reverse_cons, List.reverse_cons]
    exact (vals_rev t).append (.cons r .nil)
theorem knk_gen (X : W.K.In h) (G : h.Ns mainGlobals W.mg) (c : He.SaysD faQ fnQ W.K) (i : Nat) (hi : fnQ[i]? = some ⟨(x, none), x, x, params, body, scope, [], []⟩) (j : Nat) (hj : faQ[j]? = some (.glo x)) (S : FnScope N ["one", "two"] scope) (hb : ∀ (kV doc pm : Value) (an : Option Addr) (cdv ct a b : Value), bindArgs (PySem.W.fnOf x x params body scope .none kV doc pm an cdv ct) ⟨[], [(("two" : Str), a), (("one" : Str), b)]⟩ = (pure [(("one" : Str), b), (("two" : Str), a)] : Sem (List (Str × Value)))) : KnK W x (k + 1) ["two", "one"] (RB W N scope k body 2) := by
  obtain ⟨fd, F⟩ := c.def_ i hi
  have F : FunD W.K x x params body scope [] [] (He.ga W.K x) fd := F
  refine ⟨_, fd, ["one", "two"], fn_mk F S fun ds d z => z, He.glo_ok X G (c.fact j hj), F.kp, fun _ ws => ws.reverse, fun s us ws hK hu hw => ?_, fun _ r => vals_rev r⟩
  obtain ⟨oc, od, dV, kV, doc, pm, an, cdv, ct, osl, rfl, lk, hcd, hD, hK⟩ := F.ex
  rcases hD with ⟨_, rfl⟩ | ⟨e, _⟩
  · match us, hu, ws, hw with
    | [], _, [a, b], _ => exact .of_eq (hb kV doc pm an cdv ct a b)
  · exact absurd rfl e
end
/-! ### what the own looks tell -/
theorem ve_ok {K : PySem.W.Frag} {C : Addr} (h : veB K C = true) : ∃ nm q N bs bm sn sub ab col dd k0 k1 k2 k3 k5, K.lookup C = some (excClassObj nm q C N bs bm true sn sub ab col dd k0 k1 k2 k3 k5 "ValueError.__new__") ∧ PySem.HandSPX.refsVE bm = true := by
  unfold veB at h
  split at h
  · next dd z sl ho =>
    split at h
    · next D r k0 k1 k2 k3 y k5 hm hs =>
      simp only [Bool.and_eq_true, decide_eq_true_eq, Bool.not_eq_true'] at h
      obtain ⟨e1, e2, e3, e4, e5⟩ := h
      obtain ⟨nm, bs, mro, ns, q, hd, sn, sub, ab, col, dl⟩ := z
      simp only at hm e3 e4
      subst hm e3 e4 e1 e2
      obtain ⟨l⟩ := sl
      simp only at hs
      subst hs
      exact ⟨nm, q, ns, bs, r, sn, sub, ab, col, dd, k0, k1, k2, k3, k5, ho, e5⟩
    · cases h
  · cases h
structure ExQ (K : PySem.W.Frag) : Prop where
  ox : OexC K (He.ga K "SizesDiffer")
  xf : XfC K (He.ga K "SizesDiffer")
  one : PySem.W.findIn K (.ref (He.ga K "SizesDiffer")) "one" = some none
  two : PySem.W.findIn K (.ref (He.ga K "SizesDiffer")) "two" = some none
  cl : (PySem.W.clsIn K (He.ga K "SizesDiffer")).isSome = true
  ha : PySem.W.findIn K (.ref (He.ga K "SizesDiffer")) "__class__" = some (some (.builtin "object.__class__"))
  hn : PySem.W.specialIn K (.builtin "object.__class__") "__get__" = some (some (.builtin "getset_descriptor.__get__"))
  ht : PySem.W.takesIn K (.builtin "object.__class__") = some true
  hm : PySem.W.mroIn K (He.ga K "SizesDiffer") (.type "object") = some true
  k1 : PySem.W.kitOne K (.ref (He.ga K "SizesDiffer")) (.ref (He.ga K "NameTaken")) = some false
  k2 : PySem.W.kitOne K (.ref (He.ga K "SizesDiffer")) (.ref (He.ga K "UnknownName")) = some false
  k3 : PySem.W.kitOne K (.ref (He.ga K "SizesDiffer")) (.type "ValueError") = some true
  k4 : PySem.W.kitOne K (.ref (He.ga K "SizesDiffer")) (.ref (He.ga K "SizesDiffer")) = some true
  e1 : PySem.W.exmOne K (.ref (He.ga K "SizesDiffer")) (.ref (He.ga K "SizesDiffer")) = some true
  e2 : PySem.W.exmOne K (.ref (He.ga K "SizesDiffer")) (.ref (He.ga K "StampError")) = some true
  ii : PySem.W.findIn K (.ref (He.ga K "SizesDiffer")) "__init__" = some (some (.ref (He.ma K (He.ga K "SizesDiffer") "__init__")))
  it : PySem.W.typeIn K (.ref (He.ma K (He.ga K "SizesDiffer") "__init__")) = some (.type "function")
  c1 : PySem.W.findIn K (.ref (clQ K 1)) "__class__" = some (some (.builtin "object.__class__"))
  m1 : PySem.W.mroIn K (clQ K 1) (.type "object") = some true
  c3 : PySem.W.findIn K (.ref (clQ K 3)) "__class__" = some (some (.builtin "object.__class__"))
  m3 : PySem.W.mroIn K (clQ K 3) (.type "object") = some true
  po : PropOf K (clQ K 1) "names" (poA K) (pgA K)
  pk : okAt K (pgA K) "Stock.names" = true
  wd : He.tupB K "WORDS" [.str "alike", .str "inside", .str "around", .str "apart"] = true
theorem pg_rec {K : PySem.W.Frag} (h : isPg K = true) : ∃ rest, PySem.W.recIn K (poA K) "property" = some (.ref (pgA K) :: rest) := by
  unfold isPg at h
  unfold pgA
  split at h
  · next g r e => rw [e]; exact ⟨r, rfl⟩
  · cases h
theorem exq_ok {K : PySem.W.Frag} (h : exQ K = true) : ExQ K := by
  unfold exQ exL at h
  simp only [List.all_cons, List.all_nil, Bool.and_true, id, Bool.and_eq_true, oO, oB, decide_eq_true_eq] at h
  obtain ⟨v1, v2, v3, v4, v5, v6, v7, v8, v9, v10, v11, v12, v13, v14, v15, v16, v17, v18, v19, v20, v21, v22, v23, v24, v25, v26, v27, v28, v29, v30, v31⟩ := h
  exact ⟨⟨ve_ok v1, v2, v3, v4, v5⟩, xfB_ok v6, v7, v8, v9, v10, v11, v12, v13, v14, v15, v16, v17, v18, v19, v20, v21, v22, v23, v24, v25, ⟨v26, v27, v28, pg_rec v29⟩, v30, v31⟩
theorem fun_at {K : PySem.W.Frag} {a : Addr} {d : He.DefD} (e : fnAt K a = d.val) (c : okAt K a d.qual = true) : ∃ fd, FunD K d.name d.qual d.params d.body d.scope [] [] a fd := by
  unfold okAt at c
  obtain ⟨c1, c2⟩ := Bool.and_eq_true_iff.mp c
  unfold fnAt at e
  cases hz : fdAt K a with
  | none => rw [hz] at c2; cases c2
  | some z =>
    rw [hz] at c2 e
    obtain ⟨c3, c4⟩ := Bool.and_eq_true_iff.mp c2
    obtain ⟨c5, c6⟩ := Bool.and_eq_true_iff.mp c4
    unfold fdAt at hz
    cases hl : K.lookup a with
    | none => rw [hl] at hz; cases hz
    | some o =>
      rw [hl] at hz
      obtain ⟨oc, od, dt, osl⟩ := o
      cases dt with
      | func y =>
        have ey : y = z := Option.some.inj hz
        subst ey
        obtain ⟨n1, n2, n3, n4, n5, n6, n7, n8, n9, n10, n11, n12, n13, n14, n15⟩ := y
        have e2 : (n1, n2, n3, n4, n5, n6, n7, n15) = (d.name, d.qual, d.params, FuncBody.stmts d.body, d.scope, mainGlobals, ([] : List (Str × Addr)), builtinsNs) := Option.some.inj e
        simp only [Prod.mk.injEq] at e2
        obtain ⟨rfl, rfl, rfl, rfl, rfl, rfl, rfl, rfl⟩ := e2
        exact ⟨_, ⟨oc, od, n8, n9, n10, n11, n12, n13, n14, osl, rfl, hl, c3, He.dflB_ok c5, He.kwdB_ok c6⟩, c1⟩
      | _ => cases hz
section
variable {P : Program} {w : World} {K : PySem.W.Frag} {h : Heap} {mg : Str → Option Value} {base : Heap}
theorem hp_names (cq : exQ K = true) (cg : fnAt K (pgA K) = dP.val) : KnP (wdQ P w K mg base) 1 "names" (0 + 1) (RB (wdQ P w K mg base) N_Stock_names (defScope (meth 38 1)) 0 (defBody (meth 38 1)) 1) := by
  have z := exq_ok cq
  obtain ⟨fd, F⟩ := fun_at cg z.pk
  exact ⟨_, fd, ["self"], _, fn_mk (W := wdQ P w K mg base) F ⟨rfl, rfl, rfl, by decide +kernel, rfl, by decide +kernel, by decide +kernel⟩ fun ds d z => z, z.po, F.bindsN fun _ _ _ _ _ _ us hl => match us, hl with | [_], _ => rfl⟩
theorem hq_is_layer (c : He.SaysD faQ fnQ K) (X : K.In h) (G : h.Ns mainGlobals mg) : Kn (wdQ P w K mg base) "is_layer" (2 + 1) (RB (wdQ P w K mg base) N_is_layer (defScope (top 12)) 2 (defBody (top 12)) 1) := kn_gen (W := wdQ P w K mg base) (ps := ["value"]) X G c 0 rfl 0 rfl ⟨rfl, rfl, rfl, by decide +kernel, rfl, by decide +kernel, by decide +kernel⟩ (fun _ _ _ _ _ _ us hl => match us, hl with | [_], _ => rfl)
theorem hq_cells_of (c : He.SaysD faQ fnQ K) (X : K.In h) (G : h.Ns mainGlobals mg) : Kn (wdQ P w K mg base) "cells_of" (2 + 1) (RB (wdQ P w K mg base) N_cells_of (defScope (top 13)) 2 (defBody (top 13)) 1) := kn_gen (W := wdQ P w K mg base) (ps := ["one"]) X G c 1 rfl 1 rfl ⟨rfl, rfl, rfl, by decide +kernel, rfl, by decide +kernel, by decide +kernel⟩ (fun _ _ _ _ _ _ us hl => match us, hl with | [_], _ => rfl)
theorem hq_agree (c : He.SaysD faQ fnQ K) (X : K.In h) (G : h.Ns mainGlobals mg) : Kn (wdQ P w K mg base) "agree" (0 + 1) (RB (wdQ P w K mg base) N_agree (defScope (top 14)) 0 (defBody (top 14)) 2) := kn_gen (W := wdQ P w K mg base) (ps := ["one", "two"]) X G c 2 rfl 2 rfl ⟨rfl, rfl, rfl, by decide +kernel, rfl, by decide +kernel, by decide +kernel⟩ (fun _ _ _ _ _ _ us hl => match us, hl with | [_, _], _ => rfl)
theorem hq_freed (c : He.SaysD faQ fnQ K) (X : K.In h) (G : h.Ns mainGlobals mg) : Kn (wdQ P w K mg base) "freed" (2 + 1) (RB (wdQ P w K mg base) N_freed (defScope (top 15)) 2 (defBody (top 15)) 2) := kn_gen (W := wdQ P w K mg base) (ps := ["one", "chosen"]) X G c 3 rfl 3 rfl ⟨rfl, rfl, rfl, by decide +kernel, rfl, by decide +kernel, by decide +kernel⟩ (fun _ _ _ _ _ _ us hl => match us, hl with | [_, _], _ => rfl)
theorem hq_empty_layer (c : He.SaysD faQ fnQ K) (X : K.In h) (G : h.Ns mainGlobals mg) : Kn (wdQ P w K mg base) "empty_layer" (0 + 1) (RB (wdQ P w K mg base) N_empty_layer (defScope (top 16)) 0 (defBody (top 16)) 1) := kn_gen (W := wdQ P w K mg base) (ps := ["size"]) X G c 4 rfl 4 rfl ⟨rfl, rfl, rfl, by decide +kernel, rfl, by decide +kernel, by decide +kernel⟩ (fun _ _ _ _ _ _ us hl => match us, hl with | [_], _ => rfl)
theorem hq_press (c : He.SaysD faQ fnQ K) (X : K.In h) (G : h.Ns mainGlobals mg) : Kn (wdQ P w K mg base) "press" (0 + 1) (RB (wdQ P w K mg base) N_press (defScope (top 17)) 0 (defBody (top 17)) 2) := kn_gen (W := wdQ P w K mg base) (ps := ["one", "two"]) X G c 5 rfl 5 rfl ⟨rfl, rfl, rfl, by decide +kernel, rfl, by decide +kernel, by decide +kernel⟩ (fun _ _ _ _ _ _ us hl => match us, hl with | [_, _], _ => rfl)
theorem hq_frozen (c : He.SaysD faQ fnQ K) (X : K.In h) (G : h.Ns mainGlobals mg) (k : Nat) : Kn (wdQ P w K mg base) "frozen" (k + 1) (RB (wdQ P w K mg base) N_frozen (defScope (top 18)) k (defBody (top 18)) 1) := kn_gen (W := wdQ P w K mg base) (ps := ["value"]) X G c 6 rfl 6 rfl ⟨rfl, rfl, rfl, by decide +kernel, rfl, by decide +kernel, by decide +kernel⟩ (fun _ _ _ _ _ _ us hl => match us, hl with | [_], _ => rfl)
theorem hq_cell_set (c : He.SaysD faQ fnQ K) (X : K.In h) (G : h.Ns mainGlobals mg) : Kn (wdQ P w K mg base) "cell_set" (0 + 1) (RB (wdQ P w K mg base) N_cell_set (defScope (top 19)) 0 (defBody (top 19)) 1) := kn_gen (W := wdQ P w K mg base) (ps := ["chosen"]) X G c 7 rfl 7 rfl ⟨rfl, rfl, rfl, by decide +kernel, rfl, by decide +kernel, by decide +kernel⟩ (fun _ _ _ _ _ _ us hl => match us, hl with | [_], _ => rfl)
theorem hq_peeled (c : He.SaysD faQ fnQ K) (X : K.In h) (G : h.Ns mainGlobals mg) : Kn (wdQ P w K mg base) "peeled" (3 + 1) (RB (wdQ P w K mg base) N_peeled (defScope (top 22)) 3 (defBody (top 22)) 2) := kn_gen (W := wdQ P w K mg base) (ps := ["left", "stamp"]) X G c 8 rfl 8 rfl ⟨rfl, rfl, rfl, by decide +kernel, rfl, by decide +kernel, by decide +kernel⟩ (fun _ _ _ _ _ _ us hl => match us, hl with | [_, _], _ => rfl)
theorem hq_frees_marks (c : He.SaysD faQ fnQ K) (X : K.In h) (G : h.Ns mainGlobals mg) : Kn (wdQ P w K mg base) "frees_marks" (4 + 1) (RB (wdQ P w K mg base) N_frees_marks (defScope (top 23)) 4 (defBody (top 23)) 2) := kn_gen (W := wdQ P w K mg base) (ps := ["stamp", "left"]) X G c 9 rfl 9 rfl ⟨rfl, rfl, rfl, by decide +kernel, rfl, by decide +kernel, by decide +kernel⟩ (fun _ _ _ _ _ _ us hl => match us, hl with | [_, _], _ => rfl)
theorem hq_first_to_peel (c : He.SaysD faQ fnQ K) (X : K.In h) (G : h.Ns mainGlobals mg) : Kn (wdQ P w K mg base) "first_to_peel" (5 + 1) (RB (wdQ P w K mg base) N_first_to_peel (defScope (top 24)) 5 (defBody (top 24)) 2) := kn_gen (W := wdQ P w K mg base) (ps := ["layers", "left"]) X G c 10 rfl 10 rfl ⟨rfl, rfl, rfl, by decide +kernel, rfl, by decide +kernel, by decide +kernel⟩ (fun _ _ _ _ _ _ us hl => match us, hl with | [_, _], _ => rfl)
theorem hq_peel_by (c : He.SaysD faQ fnQ K) (X : K.In h) (G : h.Ns mainGlobals mg) : Kn (wdQ P w K mg base) "peel_by" (6 + 1) (RB (wdQ P w K mg base) N_peel_by (defScope (top 25)) 6 (defBody (top 25)) 2) := kn_gen (W := wdQ P w K mg base) (ps := ["layers", "left"]) X G c 11 rfl 11 rfl ⟨rfl, rfl, rfl, by decide +kernel, rfl, by decide +kernel, by decide +kernel⟩ (fun _ _ _ _ _ _ us hl => match us, hl with | [_, _], _ => rfl)
theorem hq_peeling (c : He.SaysD faQ fnQ K) (X : K.In h) (G : h.Ns mainGlobals mg) : Kn (wdQ P w K mg base) "peeling" (7 + 1) (RB (wdQ P w K mg base) N_peeling (defScope (top 26)) 7 (defBody (top 26)) 2) := kn_gen (W := wdQ P w K mg base) (ps := ["stock", "seen"]) X G c 12 rfl 12 rfl ⟨rfl, rfl, rfl, by decide +kernel, rfl, by decide +kernel, by decide +kernel⟩ (fun _ _ _ _ _ _ us hl => match us, hl with | [_, _], _ => rfl)
theorem hq_covers_some (c : He.SaysD faQ fnQ K) (X : K.In h) (G : h.Ns mainGlobals mg) : Kn (wdQ P w K mg base) "covers_some" (0 + 1) (RB (wdQ P w K mg base) N_covers_some (defScope (top 28)) 0 (defBody (top 28)) 2) := kn_gen (W := wdQ P w K mg base) (ps := ["stamp", "cells"]) X G c 13 rfl 13 rfl ⟨rfl, rfl, rfl, by decide +kernel, rfl, by decide +kernel, by decide +kernel⟩ (fun _ _ _ _ _ _ us hl => match us, hl with | [_, _], _ => rfl)
theorem hq_contradicts (c : He.SaysD faQ fnQ K) (X : K.In h) (G : h.Ns mainGlobals mg) : Kn (wdQ P w K mg base) "contradicts" (0 + 1) (RB (wdQ P w K mg base) N_contradicts (defScope (top 29)) 0 (defBody (top 29)) 3) := kn_gen (W := wdQ P w K mg base) (ps := ["stamp", "seen", "cells"]) X G c 14 rfl 14 rfl ⟨rfl, rfl, rfl, by decide +kernel, rfl, by decide +kernel, by decide +kernel⟩ (fun _ _ _ _ _ _ us hl => match us, hl with | [_, _, _], _ => rfl)
theorem hq_fast_for (c : He.SaysD faQ fnQ K) (X : K.In h) (G : h.Ns mainGlobals mg) : Kn (wdQ P w K mg base) "fast_for" (1 + 1) (RB (wdQ P w K mg base) N_fast_for (defScope (top 30)) 1 (defBody (top 30)) 3) := kn_gen (W := wdQ P w K mg base) (ps := ["layers", "seen", "chosen"]) X G c 15 rfl 15 rfl ⟨rfl, rfl, rfl, by decide +kernel, rfl, by decide +kernel, by decide +kernel⟩ (fun _ _ _ _ _ _ us hl => match us, hl with | [_, _, _], _ => rfl)
theorem hq_is_fast (c : He.SaysD faQ fnQ K) (X : K.In h) (G : h.Ns mainGlobals mg) : Kn (wdQ P w K mg base) "is_fast" (2 + 1) (RB (wdQ P w K mg base) N_is_fast (defScope (top 31)) 2 (defBody (top 31)) 3) := kn_gen (W := wdQ P w K mg base) (ps := ["stock", "seen", "chosen"]) X G c 16 rfl 16 rfl ⟨rfl, rfl, rfl, by decide +kernel, rfl, by decide +kernel, by decide +kernel⟩ (fun _ _ _ _ _ _ us hl => match us, hl with | [_, _, _], _ => rfl)
theorem hq_is_name (c : He.SaysD faQ fnQ K) (X : K.In h) (G : h.Ns mainGlobals mg) : Kn (wdQ P w K mg base) "is_name" (2 + 1) (RB (wdQ P w K mg base) N_is_name (defScope (top 36)) 2 (defBody (top 36)) 1) := kn_gen (W := wdQ P w K mg base) (ps := ["value"]) X G c 17 rfl 17 rfl ⟨rfl, rfl, rfl, by decide +kernel, rfl, by decide +kernel, by decide +kernel⟩ (fun _ _ _ _ _ _ us hl => match us, hl with | [_], _ => rfl)
theorem hq_is_stamp (c : He.SaysD faQ fnQ K) (X : K.In h) (G : h.Ns mainGlobals mg) : Kn (wdQ P w K mg base) "is_stamp" (3 + 1) (RB (wdQ P w K mg base) N_is_stamp (defScope (top 37)) 3 (defBody (top 37)) 2) := kn_gen (W := wdQ P w K mg base) (ps := ["value", "size"]) X G c 18 rfl 18 rfl ⟨rfl, rfl, rfl, by decide +kernel, rfl, by decide +kernel, by decide +kernel⟩ (fun _ _ _ _ _ _ us hl => match us, hl with | [_, _], _ => rfl)
theorem hq_known_names (c : He.SaysD faQ fnQ K) (X : K.In h) (G : h.Ns mainGlobals mg) : Kn (wdQ P w K mg base) "known_names" (4 + 1) (RB (wdQ P w K mg base) N_known_names (defScope (top 39)) 4 (defBody (top 39)) 2) := kn_gen (W := wdQ P w K mg base) (ps := ["stock", "names"]) X G c 19 rfl 19 rfl ⟨rfl, rfl, rfl, by decide +kernel, rfl, by decide +kernel, by decide +kernel⟩ (fun _ _ _ _ _ _ us hl => match us, hl with | [_, _], _ => rfl)
theorem hq_covers_only (c : He.SaysD faQ fnQ K) (X : K.In h) (G : h.Ns mainGlobals mg) : Kn (wdQ P w K mg base) "covers_only" (0 + 1) (RB (wdQ P w K mg base) N_covers_only (defScope (top 42)) 0 (defBody (top 42)) 2) := kn_gen (W := wdQ P w K mg base) (ps := ["layer", "stamp"]) X G c 20 rfl 20 rfl ⟨rfl, rfl, rfl, by decide +kernel, rfl, by decide +kernel, by decide +kernel⟩ (fun _ _ _ _ _ _ us hl => match us, hl with | [_, _], _ => rfl)
theorem hq_inner_stock (c : He.SaysD faQ fnQ K) (X : K.In h) (G : h.Ns mainGlobals mg) : Kn (wdQ P w K mg base) "inner_stock" (6 + 1) (RB (wdQ P w K mg base) N_inner_stock (defScope (top 43)) 6 (defBody (top 43)) 2) := kn_gen (W := wdQ P w K mg base) (ps := ["stock", "stamp"]) X G c 21 rfl 21 rfl ⟨rfl, rfl, rfl, by decide +kernel, rfl, by decide +kernel, by decide +kernel⟩ (fun _ _ _ _ _ _ us hl => match us, hl with | [_, _], _ => rfl)
theorem hq_stamp_making (c : He.SaysD faQ fnQ K) (X : K.In h) (G : h.Ns mainGlobals mg) : Kn (wdQ P w K mg base) "stamp_making" (8 + 1) (RB (wdQ P w K mg base) N_stamp_making (defScope (top 44)) 8 (defBody (top 44)) 2) := kn_gen (W := wdQ P w K mg base) (ps := ["stock", "stamp"]) X G c 22 rfl 22 rfl ⟨rfl, rfl, rfl, by decide +kernel, rfl, by decide +kernel, by decide +kernel⟩ (fun _ _ _ _ _ _ us hl => match us, hl with | [_, _], _ => rfl)
theorem hq_is_stamp_refusal (c : He.SaysD faQ fnQ K) (X : K.In h) (G : h.Ns mainGlobals mg) : Kn (wdQ P w K mg base) "is_stamp_refusal" (7 + 1) (RB (wdQ P w K mg base) N_is_stamp_refusal (defScope (top 45)) 7 (defBody (top 45)) 3) := kn_gen (W := wdQ P w K mg base) (ps := ["stock", "stamp", "chosen"]) X G c 23 rfl 23 rfl ⟨rfl, rfl, rfl, by decide +kernel, rfl, by decide +kernel, by decide +kernel⟩ (fun _ _ _ _ _ _ us hl => match us, hl with | [_, _, _], _ => rfl)
theorem hq_strange_mark (c : He.SaysD faQ fnQ K) (X : K.In h) (G : h.Ns mainGlobals mg) : Kn (wdQ P w K mg base) "strange_mark" (2 + 1) (RB (wdQ P w K mg base) N_strange_mark (defScope (top 48)) 2 (defBody (top 48)) 2) := kn_gen (W := wdQ P w K mg base) (ps := ["layers", "cell"]) X G c 24 rfl 24 rfl ⟨rfl, rfl, rfl, by decide +kernel, rfl, by decide +kernel, by decide +kernel⟩ (fun _ _ _ _ _ _ us hl => match us, hl with | [_, _], _ => rfl)
theorem hq_strange_sheet (c : He.SaysD faQ fnQ K) (X : K.In h) (G : h.Ns mainGlobals mg) : Kn (wdQ P w K mg base) "strange_sheet" (3 + 1) (RB (wdQ P w K mg base) N_strange_sheet (defScope (top 49)) 3 (defBody (top 49)) 2) := kn_gen (W := wdQ P w K mg base) (ps := ["one", "two"]) X G c 25 rfl 25 rfl ⟨rfl, rfl, rfl, by decide +kernel, rfl, by decide +kernel, by decide +kernel⟩ (fun _ _ _ _ _ _ us hl => match us, hl with | [_, _], _ => rfl)
theorem hq_rows_by (c : He.SaysD faQ fnQ K) (X : K.In h) (G : h.Ns mainGlobals mg) : Kn (wdQ P w K mg base) "rows_by" (9 + 1) (RB (wdQ P w K mg base) N_rows_by (defScope (top 50)) 9 (defBody (top 50)) 2) := kn_gen (W := wdQ P w K mg base) (ps := ["maker", "stock"]) X G c 26 rfl 26 rfl ⟨rfl, rfl, rfl, by decide +kernel, rfl, by decide +kernel, by decide +kernel⟩ (fun _ _ _ _ _ _ us hl => match us, hl with | [_, _], _ => rfl)
theorem hq_first_missing (c : He.SaysD faQ fnQ K) (X : K.In h) (G : h.Ns mainGlobals mg) : Kn (wdQ P w K mg base) "first_missing" (2 + 1) (RB (wdQ P w K mg base) N_first_missing (defScope (top 51)) 2 (defBody (top 51)) 2) := kn_gen (W := wdQ P w K mg base) (ps := ["stock", "rows"]) X G c 27 rfl 27 rfl ⟨rfl, rfl, rfl, by decide +kernel, rfl, by decide +kernel, by decide +kernel⟩ (fun _ _ _ _ _ _ us hl => match us, hl with | [_, _], _ => rfl)
theorem hq_comparison_word (c : He.SaysD faQ fnQ K) (X : K.In h) (G : h.Ns mainGlobals mg) : Kn (wdQ P w K mg base) "comparison_word" (0 + 1) (RB (wdQ P w K mg base) N_comparison_word (defScope (top 52)) 0 (defBody (top 52)) 2) := kn_gen (W := wdQ P w K mg base) (ps := ["missing", "other_missing"]) X G c 28 rfl 28 rfl ⟨rfl, rfl, rfl, by decide +kernel, rfl, by decide +kernel, by decide +kernel⟩ (fun _ _ _ _ _ _ us hl => match us, hl with | [_, _], _ => rfl)
theorem hq_compare_stocks (c : He.SaysD faQ fnQ K) (X : K.In h) (G : h.Ns mainGlobals mg) : Kn (wdQ P w K mg base) "compare_stocks" (10 + 1) (RB (wdQ P w K mg base) N_compare_stocks (defScope (top 53)) 10 (defBody (top 53)) 2) := kn_gen (W := wdQ P w K mg base) (ps := ["one", "two"]) X G c 29 rfl 29 rfl ⟨rfl, rfl, rfl, by decide +kernel, rfl, by decide +kernel, by decide +kernel⟩ (fun _ _ _ _ _ _ us hl => match us, hl with | [_, _], _ => rfl)
theorem hq_row_layers (c : He.SaysD faQ fnQ K) (X : K.In h) (G : h.Ns mainGlobals mg) : Kn (wdQ P w K mg base) "row_layers" (5 + 1) (RB (wdQ P w K mg base) N_row_layers (defScope (top 55)) 5 (defBody (top 55)) 2) := kn_gen (W := wdQ P w K mg base) (ps := ["stock", "row"]) X G c 30 rfl 30 rfl ⟨rfl, rfl, rfl, by decide +kernel, rfl, by decide +kernel, by decide +kernel⟩ (fun _ _ _ _ _ _ us hl => match us, hl with | [_, _], _ => rfl)
theorem hq_press_all (c : He.SaysD faQ fnQ K) (X : K.In h) (G : h.Ns mainGlobals mg) : Kn (wdQ P w K mg base) "press_all" (1 + 1) (RB (wdQ P w K mg base) N_press_all (defScope (top 56)) 1 (defBody (top 56)) 2) := kn_gen (W := wdQ P w K mg base) (ps := ["layer", "layers"]) X G c 31 rfl 31 rfl ⟨rfl, rfl, rfl, by decide +kernel, rfl, by decide +kernel, by decide +kernel⟩ (fun _ _ _ _ _ _ us hl => match us, hl with | [_, _], _ => rfl)
theorem hq_net_of (c : He.SaysD faQ fnQ K) (X : K.In h) (G : h.Ns mainGlobals mg) : Kn (wdQ P w K mg base) "net_of" (2 + 1) (RB (wdQ P w K mg base) N_net_of (defScope (top 57)) 2 (defBody (top 57)) 2) := kn_gen (W := wdQ P w K mg base) (ps := ["size", "layers"]) X G c 32 rfl 32 rfl ⟨rfl, rfl, rfl, by decide +kernel, rfl, by decide +kernel, by decide +kernel⟩ (fun _ _ _ _ _ _ us hl => match us, hl with | [_, _], _ => rfl)
theorem hq_net_stamp (c : He.SaysD faQ fnQ K) (X : K.In h) (G : h.Ns mainGlobals mg) : Kn (wdQ P w K mg base) "net_stamp" (6 + 1) (RB (wdQ P w K mg base) N_net_stamp (defScope (top 58)) 6 (defBody (top 58)) 2) := kn_gen (W := wdQ P w K mg base) (ps := ["stock", "row"]) X G c 33 rfl 33 rfl ⟨rfl, rfl, rfl, by decide +kernel, rfl, by decide +kernel, by decide +kernel⟩ (fun _ _ _ _ _ _ us hl => match us, hl with | [_, _], _ => rfl)
theorem hq_is_row_for (c : He.SaysD faQ fnQ K) (X : K.In h) (G : h.Ns mainGlobals mg) : Kn (wdQ P w K mg base) "is_row_for" (7 + 1) (RB (wdQ P w K mg base) N_is_row_for (defScope (top 61)) 7 (defBody (top 61)) 3) := kn_gen (W := wdQ P w K mg base) (ps := ["maker", "row", "stamp"]) X G c 34 rfl 34 rfl ⟨rfl, rfl, rfl, by decide +kernel, rfl, by decide +kernel, by decide +kernel⟩ (fun _ _ _ _ _ _ us hl => match us, hl with | [_, _, _], _ => rfl)
theorem hq_are_rows_for (c : He.SaysD faQ fnQ K) (X : K.In h) (G : h.Ns mainGlobals mg) : Kn (wdQ P w K mg base) "are_rows_for" (8 + 1) (RB (wdQ P w K mg base) N_are_rows_for (defScope (top 62)) 8 (defBody (top 62)) 3) := kn_gen (W := wdQ P w K mg base) (ps := ["maker", "rows", "stock"]) X G c 35 rfl 35 rfl ⟨rfl, rfl, rfl, by decide +kernel, rfl, by decide +kernel, by decide +kernel⟩ (fun _ _ _ _ _ _ us hl => match us, hl with | [_, _, _], _ => rfl)
theorem hq_is_missing_right (c : He.SaysD faQ fnQ K) (X : K.In h) (G : h.Ns mainGlobals mg) : Kn (wdQ P w K mg base) "is_missing_right" (8 + 1) (RB (wdQ P w K mg base) N_is_missing_right (defScope (top 63)) 8 (defBody (top 63)) 5) := kn_gen (W := wdQ P w K mg base) (ps := ["maker", "rows", "stock", "missing", "cells"]) X G c 36 rfl 36 rfl ⟨rfl, rfl, rfl, by decide +kernel, rfl, by decide +kernel, by decide +kernel⟩ (fun _ _ _ _ _ _ us hl => match us, hl with | [_, _, _, _, _], _ => rfl)
theorem hq_is_strange (c : He.SaysD faQ fnQ K) (X : K.In h) (G : h.Ns mainGlobals mg) : Kn (wdQ P w K mg base) "is_strange" (0 + 1) (RB (wdQ P w K mg base) N_is_strange (defScope (top 64)) 0 (defBody (top 64)) 3) := kn_gen (W := wdQ P w K mg base) (ps := ["one", "two", "sheet"]) X G c 37 rfl 37 rfl ⟨rfl, rfl, rfl, by decide +kernel, rfl, by decide +kernel, by decide +kernel⟩ (fun _ _ _ _ _ _ us hl => match us, hl with | [_, _, _], _ => rfl)
theorem hq_is_comparison (c : He.SaysD faQ fnQ K) (X : K.In h) (G : h.Ns mainGlobals mg) : Kn (wdQ P w K mg base) "is_comparison" (9 + 1) (RB (wdQ P w K mg base) N_is_comparison (defScope (top 65)) 9 (defBody (top 65)) 3) := kn_gen (W := wdQ P w K mg base) (ps := ["one", "two", "comparison"]) X G c 38 rfl 38 rfl ⟨rfl, rfl, rfl, by decide +kernel, rfl, by decide +kernel, by decide +kernel⟩ (fun _ _ _ _ _ _ us hl => match us, hl with | [_, _, _], _ => rfl)
theorem hq__law_whole (c : He.SaysD faQ fnQ K) (X : K.In h) (G : h.Ns mainGlobals mg) : Kn (wdQ P w K mg base) "_law_whole" (0 + 1) (RB (wdQ P w K mg base) N__law_whole (defScope (top 67)) 0 (defBody (top 67)) 1) := kn_gen (W := wdQ P w K mg base) (ps := ["_law_value"]) X G c 39 rfl 39 rfl ⟨rfl, rfl, rfl, by decide +kernel, rfl, by decide +kernel, by decide +kernel⟩ (fun _ _ _ _ _ _ us hl => match us, hl with | [_], _ => rfl)
theorem hq__law_cell (c : He.SaysD faQ fnQ K) (X : K.In h) (G : h.Ns mainGlobals mg) : Kn (wdQ P w K mg base) "_law_cell" (2 + 1) (RB (wdQ P w K mg base) N__law_cell (defScope (top 68)) 2 (defBody (top 68)) 2) := kn_gen (W := wdQ P w K mg base) (ps := ["_law_script", "_law_k"]) X G c 40 rfl 40 rfl ⟨rfl, rfl, rfl, by decide +kernel, rfl, by decide +kernel, by decide +kernel⟩ (fun _ _ _ _ _ _ us hl => match us, hl with | [_, _], _ => rfl)
theorem hq__law_digits (c : He.SaysD faQ fnQ K) (X : K.In h) (G : h.Ns mainGlobals mg) : Kn (wdQ P w K mg base) "_law_digits" (2 + 1) (RB (wdQ P w K mg base) N__law_digits (defScope (top 69)) 2 (defBody (top 69)) 2) := kn_gen (W := wdQ P w K mg base) (ps := ["_law_cell_here", "_law_sizes"]) X G c 41 rfl 41 rfl ⟨rfl, rfl, rfl, by decide +kernel, rfl, by decide +kernel, by decide +kernel⟩ (fun _ _ _ _ _ _ us hl => match us, hl with | [_, _], _ => rfl)
theorem hq__law_marks (c : He.SaysD faQ fnQ K) (X : K.In h) (G : h.Ns mainGlobals mg) : Kn (wdQ P w K mg base) "_law_marks" (0 + 1) (RB (wdQ P w K mg base) N__law_marks (defScope (top 70)) 0 (defBody (top 70)) 1) := kn_gen (W := wdQ P w K mg base) (ps := ["_law_line"]) X G c 42 rfl 42 rfl ⟨rfl, rfl, rfl, by decide +kernel, rfl, by decide +kernel, by decide +kernel⟩ (fun _ _ _ _ _ _ us hl => match us, hl with | [_], _ => rfl)
theorem hq__law_stamp (c : He.SaysD faQ fnQ K) (X : K.In h) (G : h.Ns mainGlobals mg) : Kn (wdQ P w K mg base) "_law_stamp" (0 + 1) (RB (wdQ P w K mg base) N__law_stamp (defScope (top 71)) 0 (defBody (top 71)) 3) := kn_gen (W := wdQ P w K mg base) (ps := ["_law_marks_here", "_law_line", "_law_size"]) X G c 43 rfl 43 rfl ⟨rfl, rfl, rfl, by decide +kernel, rfl, by decide +kernel, by decide +kernel⟩ (fun _ _ _ _ _ _ us hl => match us, hl with | [_, _, _], _ => rfl)
theorem hq__law_named (c : He.SaysD faQ fnQ K) (X : K.In h) (G : h.Ns mainGlobals mg) : Kn (wdQ P w K mg base) "_law_named" (2 + 1) (RB (wdQ P w K mg base) N__law_named (defScope (top 72)) 2 (defBody (top 72)) 2) := kn_gen (W := wdQ P w K mg base) (ps := ["_law_layers", "_law_digit"]) X G c 44 rfl 44 rfl ⟨rfl, rfl, rfl, by decide +kernel, rfl, by decide +kernel, by decide +kernel⟩ (fun _ _ _ _ _ _ us hl => match us, hl with | [_, _], _ => rfl)
theorem hq__law_base (c : He.SaysD faQ fnQ K) (X : K.In h) (G : h.Ns mainGlobals mg) : Kn (wdQ P w K mg base) "_law_base" (3 + 1) (RB (wdQ P w K mg base) N__law_base (defScope (top 73)) 3 (defBody (top 73)) 3) := kn_gen (W := wdQ P w K mg base) (ps := ["_law_script", "_law_at", "_law_upto"]) X G c 45 rfl 45 rfl ⟨rfl, rfl, rfl, by decide +kernel, rfl, by decide +kernel, by decide +kernel⟩ (fun _ _ _ _ _ _ us hl => match us, hl with | [_, _, _], _ => rfl)
theorem hq__law_press (c : He.SaysD faQ fnQ K) (X : K.In h) (G : h.Ns mainGlobals mg) : Kn (wdQ P w K mg base) "_law_press" (2 + 1) (RB (wdQ P w K mg base) N__law_press (defScope (top 74)) 2 (defBody (top 74)) 2) := kn_gen (W := wdQ P w K mg base) (ps := ["_law_under", "_law_over"]) X G c 46 rfl 46 rfl ⟨rfl, rfl, rfl, by decide +kernel, rfl, by decide +kernel, by decide +kernel⟩ (fun _ _ _ _ _ _ us hl => match us, hl with | [_, _], _ => rfl)
theorem hq__law_agree (c : He.SaysD faQ fnQ K) (X : K.In h) (G : h.Ns mainGlobals mg) : Kn (wdQ P w K mg base) "_law_agree" (2 + 1) (RB (wdQ P w K mg base) N__law_agree (defScope (top 75)) 2 (defBody (top 75)) 2) := kn_gen (W := wdQ P w K mg base) (ps := ["_law_former", "_law_latter"]) X G c 47 rfl 47 rfl ⟨rfl, rfl, rfl, by decide +kernel, rfl, by decide +kernel, by decide +kernel⟩ (fun _ _ _ _ _ _ us hl => match us, hl with | [_, _], _ => rfl)
theorem hq__law_free (c : He.SaysD faQ fnQ K) (X : K.In h) (G : h.Ns mainGlobals mg) : Kn (wdQ P w K mg base) "_law_free" (2 + 1) (RB (wdQ P w K mg base) N__law_free (defScope (top 76)) 2 (defBody (top 76)) 2) := kn_gen (W := wdQ P w K mg base) (ps := ["_law_layer", "_law_mould"]) X G c 48 rfl 48 rfl ⟨rfl, rfl, rfl, by decide +kernel, rfl, by decide +kernel, by decide +kernel⟩ (fun _ _ _ _ _ _ us hl => match us, hl with | [_, _], _ => rfl)
theorem hq__law_layer_of (c : He.SaysD faQ fnQ K) (X : K.In h) (G : h.Ns mainGlobals mg) : Kn (wdQ P w K mg base) "_law_layer_of" (0 + 1) (RB (wdQ P w K mg base) N__law_layer_of (defScope (top 77)) 0 (defBody (top 77)) 2) := kn_gen (W := wdQ P w K mg base) (ps := ["_law_stamps", "_law_called"]) X G c 49 rfl 49 rfl ⟨rfl, rfl, rfl, by decide +kernel, rfl, by decide +kernel, by decide +kernel⟩ (fun _ _ _ _ _ _ us hl => match us, hl with | [_, _], _ => rfl)
theorem hq__law_peel (c : He.SaysD faQ fnQ K) (X : K.In h) (G : h.Ns mainGlobals mg) : Kn (wdQ P w K mg base) "_law_peel" (3 + 1) (RB (wdQ P w K mg base) N__law_peel (defScope (top 78)) 3 (defBody (top 78)) 2) := kn_gen (W := wdQ P w K mg base) (ps := ["_law_stamps", "_law_seen"]) X G c 50 rfl 50 rfl ⟨rfl, rfl, rfl, by decide +kernel, rfl, by decide +kernel, by decide +kernel⟩ (fun _ _ _ _ _ _ us hl => match us, hl with | [_, _], _ => rfl)
theorem hq__law_nets (c : He.SaysD faQ fnQ K) (X : K.In h) (G : h.Ns mainGlobals mg) : Kn (wdQ P w K mg base) "_law_nets" (3 + 1) (RB (wdQ P w K mg base) N__law_nets (defScope (top 79)) 3 (defBody (top 79)) 4) := kn_gen (W := wdQ P w K mg base) (ps := ["_law_script", "_law_at", "_law_layers", "_law_many"]) X G c 51 rfl 51 rfl ⟨rfl, rfl, rfl, by decide +kernel, rfl, by decide +kernel, by decide +kernel⟩ (fun _ _ _ _ _ _ us hl => match us, hl with | [_, _, _, _], _ => rfl)
theorem hq__law_changed (c : He.SaysD faQ fnQ K) (X : K.In h) (G : h.Ns mainGlobals mg) : Kn (wdQ P w K mg base) "_law_changed" (2 + 1) (RB (wdQ P w K mg base) N__law_changed (defScope (top 80)) 2 (defBody (top 80)) 3) := kn_gen (W := wdQ P w K mg base) (ps := ["_law_layer", "_law_marks_here", "_law_place"]) X G c 52 rfl 52 rfl ⟨rfl, rfl, rfl, by decide +kernel, rfl, by decide +kernel, by decide +kernel⟩ (fun _ _ _ _ _ _ us hl => match us, hl with | [_, _, _], _ => rfl)
theorem hq__law_thin (c : He.SaysD faQ fnQ K) (X : K.In h) (G : h.Ns mainGlobals mg) : Kn (wdQ P w K mg base) "_law_thin" (2 + 1) (RB (wdQ P w K mg base) N__law_thin (defScope (top 81)) 2 (defBody (top 81)) 3) := kn_gen (W := wdQ P w K mg base) (ps := ["_law_layer", "_law_at", "_law_many"]) X G c 53 rfl 53 rfl ⟨rfl, rfl, rfl, by decide +kernel, rfl, by decide +kernel, by decide +kernel⟩ (fun _ _ _ _ _ _ us hl => match us, hl with | [_, _, _], _ => rfl)
theorem hq__law_recoloured (c : He.SaysD faQ fnQ K) (X : K.In h) (G : h.Ns mainGlobals mg) : Kn (wdQ P w K mg base) "_law_recoloured" (0 + 1) (RB (wdQ P w K mg base) N__law_recoloured (defScope (top 82)) 0 (defBody (top 82)) 3) := kn_gen (W := wdQ P w K mg base) (ps := ["_law_layer", "_law_old", "_law_new"]) X G c 54 rfl 54 rfl ⟨rfl, rfl, rfl, by decide +kernel, rfl, by decide +kernel, by decide +kernel⟩ (fun _ _ _ _ _ _ us hl => match us, hl with | [_, _, _], _ => rfl)
theorem hq__law_crowd (c : He.SaysD faQ fnQ K) (X : K.In h) (G : h.Ns mainGlobals mg) : Kn (wdQ P w K mg base) "_law_crowd" (3 + 1) (RB (wdQ P w K mg base) N__law_crowd (defScope (top 83)) 3 (defBody (top 83)) 5) := kn_gen (W := wdQ P w K mg base) (ps := ["_law_script", "_law_at", "_law_many", "_law_size", "_law_marks_here"]) X G c 55 rfl 55 rfl ⟨rfl, rfl, rfl, by decide +kernel, rfl, by decide +kernel, by decide +kernel⟩ (fun _ _ _ _ _ _ us hl => match us, hl with | [_, _, _, _, _], _ => rfl)
theorem hq__law_derived (c : He.SaysD faQ fnQ K) (X : K.In h) (G : h.Ns mainGlobals mg) : Kn (wdQ P w K mg base) "_law_derived" (4 + 1) (RB (wdQ P w K mg base) N__law_derived (defScope (top 84)) 4 (defBody (top 84)) 6) := kn_gen (W := wdQ P w K mg base) (ps := ["_law_script", "_law_at", "_law_size", "_law_marks_here", "_law_base_here", "_law_head"]) X G c 56 rfl 56 rfl ⟨rfl, rfl, rfl, by decide +kernel, rfl, by decide +kernel, by decide +kernel⟩ (fun _ _ _ _ _ _ us hl => match us, hl with | [_, _, _, _, _, _], _ => rfl)
theorem hq__law_two (c : He.SaysD faQ fnQ K) (X : K.In h) (G : h.Ns mainGlobals mg) : Kn (wdQ P w K mg base) "_law_two" (5 + 1) (RB (wdQ P w K mg base) N__law_two (defScope (top 85)) 5 (defBody (top 85)) 3) := kn_gen (W := wdQ P w K mg base) (ps := ["_law_script", "_law_at", "_law_upto"]) X G c 57 rfl 57 rfl ⟨rfl, rfl, rfl, by decide +kernel, rfl, by decide +kernel, by decide +kernel⟩ (fun _ _ _ _ _ _ us hl => match us, hl with | [_, _, _], _ => rfl)
theorem hq__law_two_or_crowd (c : He.SaysD faQ fnQ K) (X : K.In h) (G : h.Ns mainGlobals mg) : Kn (wdQ P w K mg base) "_law_two_or_crowd" (6 + 1) (RB (wdQ P w K mg base) N__law_two_or_crowd (defScope (top 86)) 6 (defBody (top 86)) 3) := kn_gen (W := wdQ P w K mg base) (ps := ["_law_script", "_law_at", "_law_upto"]) X G c 58 rfl 58 rfl ⟨rfl, rfl, rfl, by decide +kernel, rfl, by decide +kernel, by decide +kernel⟩ (fun _ _ _ _ _ _ us hl => match us, hl with | [_, _, _], _ => rfl)
theorem hq__law_wider (c : He.SaysD faQ fnQ K) (X : K.In h) (G : h.Ns mainGlobals mg) : Kn (wdQ P w K mg base) "_law_wider" (2 + 1) (RB (wdQ P w K mg base) N__law_wider (defScope (top 87)) 2 (defBody (top 87)) 4) := kn_gen (W := wdQ P w K mg base) (ps := ["_law_layer", "_law_way", "_law_gaps", "_law_most"]) X G c 59 rfl 59 rfl ⟨rfl, rfl, rfl, by decide +kernel, rfl, by decide +kernel, by decide +kernel⟩ (fun _ _ _ _ _ _ us hl => match us, hl with | [_, _, _, _], _ => rfl)
theorem hq__law_widened (c : He.SaysD faQ fnQ K) (X : K.In h) (G : h.Ns mainGlobals mg) : Kn (wdQ P w K mg base) "_law_widened" (3 + 1) (RB (wdQ P w K mg base) N__law_widened (defScope (top 88)) 3 (defBody (top 88)) 5) := kn_gen (W := wdQ P w K mg base) (ps := ["_law_script", "_law_at", "_law_most", "_law_size", "_law_layers"]) X G c 60 rfl 60 rfl ⟨rfl, rfl, rfl, by decide +kernel, rfl, by decide +kernel, by decide +kernel⟩ (fun _ _ _ _ _ _ us hl => match us, hl with | [_, _, _, _, _], _ => rfl)
theorem hq__law_widened_two (c : He.SaysD faQ fnQ K) (X : K.In h) (G : h.Ns mainGlobals mg) : Kn (wdQ P w K mg base) "_law_widened_two" (4 + 1) (RB (wdQ P w K mg base) N__law_widened_two (defScope (top 89)) 4 (defBody (top 89)) 6) := kn_gen (W := wdQ P w K mg base) (ps := ["_law_script", "_law_at", "_law_most", "_law_size", "_law_ones", "_law_twos"]) X G c 61 rfl 61 rfl ⟨rfl, rfl, rfl, by decide +kernel, rfl, by decide +kernel, by decide +kernel⟩ (fun _ _ _ _ _ _ us hl => match us, hl with | [_, _, _, _, _, _], _ => rfl)
theorem hq__law_sheet (c : He.SaysD faQ fnQ K) (X : K.In h) (G : h.Ns mainGlobals mg) : Kn (wdQ P w K mg base) "_law_sheet" (0 + 1) (RB (wdQ P w K mg base) N__law_sheet (defScope (top 90)) 0 (defBody (top 90)) 3) := kn_gen (W := wdQ P w K mg base) (ps := ["_law_marks_here", "_law_line", "_law_size"]) X G c 62 rfl 62 rfl ⟨rfl, rfl, rfl, by decide +kernel, rfl, by decide +kernel, by decide +kernel⟩ (fun _ _ _ _ _ _ us hl => match us, hl with | [_, _, _], _ => rfl)
theorem hq__law_inner (c : He.SaysD faQ fnQ K) (X : K.In h) (G : h.Ns mainGlobals mg) : Kn (wdQ P w K mg base) "_law_inner" (3 + 1) (RB (wdQ P w K mg base) N__law_inner (defScope (top 91)) 3 (defBody (top 91)) 2) := kn_gen (W := wdQ P w K mg base) (ps := ["_law_stamps", "_law_layer"]) X G c 63 rfl 63 rfl ⟨rfl, rfl, rfl, by decide +kernel, rfl, by decide +kernel, by decide +kernel⟩ (fun _ _ _ _ _ _ us hl => match us, hl with | [_, _], _ => rfl)
theorem hq__law_made (c : He.SaysD faQ fnQ K) (X : K.In h) (G : h.Ns mainGlobals mg) : Kn (wdQ P w K mg base) "_law_made" (4 + 1) (RB (wdQ P w K mg base) N__law_made (defScope (top 92)) 4 (defBody (top 92)) 2) := kn_gen (W := wdQ P w K mg base) (ps := ["_law_stamps", "_law_layer"]) X G c 64 rfl 64 rfl ⟨rfl, rfl, rfl, by decide +kernel, rfl, by decide +kernel, by decide +kernel⟩ (fun _ _ _ _ _ _ us hl => match us, hl with | [_, _], _ => rfl)
theorem hq__law_net (c : He.SaysD faQ fnQ K) (X : K.In h) (G : h.Ns mainGlobals mg) : Kn (wdQ P w K mg base) "_law_net" (3 + 1) (RB (wdQ P w K mg base) N__law_net (defScope (top 93)) 3 (defBody (top 93)) 3) := kn_gen (W := wdQ P w K mg base) (ps := ["_law_size", "_law_stamps", "_law_names"]) X G c 65 rfl 65 rfl ⟨rfl, rfl, rfl, by decide +kernel, rfl, by decide +kernel, by decide +kernel⟩ (fun _ _ _ _ _ _ us hl => match us, hl with | [_, _, _], _ => rfl)
theorem hq__law_row_told (c : He.SaysD faQ fnQ K) (X : K.In h) (G : h.Ns mainGlobals mg) : Kn (wdQ P w K mg base) "_law_row_told" (2 + 1) (RB (wdQ P w K mg base) N__law_row_told (defScope (top 94)) 2 (defBody (top 94)) 2) := kn_gen (W := wdQ P w K mg base) (ps := ["_law_told", "_law_due"]) X G c 66 rfl 66 rfl ⟨rfl, rfl, rfl, by decide +kernel, rfl, by decide +kernel, by decide +kernel⟩ (fun _ _ _ _ _ _ us hl => match us, hl with | [_, _], _ => rfl)
theorem hq__law_rows_told (c : He.SaysD faQ fnQ K) (X : K.In h) (G : h.Ns mainGlobals mg) : Kn (wdQ P w K mg base) "_law_rows_told" (3 + 1) (RB (wdQ P w K mg base) N__law_rows_told (defScope (top 95)) 3 (defBody (top 95)) 2) := kn_gen (W := wdQ P w K mg base) (ps := ["_law_told", "_law_rows"]) X G c 67 rfl 67 rfl ⟨rfl, rfl, rfl, by decide +kernel, rfl, by decide +kernel, by decide +kernel⟩ (fun _ _ _ _ _ _ us hl => match us, hl with | [_, _], _ => rfl)
theorem hq__law_cells_told (c : He.SaysD faQ fnQ K) (X : K.In h) (G : h.Ns mainGlobals mg) : Kn (wdQ P w K mg base) "_law_cells_told" (2 + 1) (RB (wdQ P w K mg base) N__law_cells_told (defScope (top 96)) 2 (defBody (top 96)) 2) := kn_gen (W := wdQ P w K mg base) (ps := ["_law_told", "_law_cells"]) X G c 68 rfl 68 rfl ⟨rfl, rfl, rfl, by decide +kernel, rfl, by decide +kernel, by decide +kernel⟩ (fun _ _ _ _ _ _ us hl => match us, hl with | [_, _], _ => rfl)
theorem hq__law_text_told (c : He.SaysD faQ fnQ K) (X : K.In h) (G : h.Ns mainGlobals mg) : Kn (wdQ P w K mg base) "_law_text_told" (0 + 1) (RB (wdQ P w K mg base) N__law_text_told (defScope (top 97)) 0 (defBody (top 97)) 2) := kn_gen (W := wdQ P w K mg base) (ps := ["_law_told", "_law_text"]) X G c 69 rfl 69 rfl ⟨rfl, rfl, rfl, by decide +kernel, rfl, by decide +kernel, by decide +kernel⟩ (fun _ _ _ _ _ _ us hl => match us, hl with | [_, _], _ => rfl)
theorem hq__law_stock_told (c : He.SaysD faQ fnQ K) (X : K.In h) (G : h.Ns mainGlobals mg) : Kn (wdQ P w K mg base) "_law_stock_told" (3 + 1) (RB (wdQ P w K mg base) N__law_stock_told (defScope (top 98)) 3 (defBody (top 98)) 3) := kn_gen (W := wdQ P w K mg base) (ps := ["_law_told", "_law_size", "_law_stamps"]) X G c 70 rfl 70 rfl ⟨rfl, rfl, rfl, by decide +kernel, rfl, by decide +kernel, by decide +kernel⟩ (fun _ _ _ _ _ _ us hl => match us, hl with | [_, _, _], _ => rfl)
theorem hq__law_copy (c : He.SaysD faQ fnQ K) (X : K.In h) (G : h.Ns mainGlobals mg) : Kn (wdQ P w K mg base) "_law_copy" (0 + 1) (RB (wdQ P w K mg base) N__law_copy (defScope (top 99)) 0 (defBody (top 99)) 1) := kn_gen (W := wdQ P w K mg base) (ps := ["_law_stamps"]) X G c 71 rfl 71 rfl ⟨rfl, rfl, rfl, by decide +kernel, rfl, by decide +kernel, by decide +kernel⟩ (fun _ _ _ _ _ _ us hl => match us, hl with | [_], _ => rfl)
theorem hq__law_tuples (c : He.SaysD faQ fnQ K) (X : K.In h) (G : h.Ns mainGlobals mg) : Kn (wdQ P w K mg base) "_law_tuples" (0 + 1) (RB (wdQ P w K mg base) N__law_tuples (defScope (top 100)) 0 (defBody (top 100)) 1) := kn_gen (W := wdQ P w K mg base) (ps := ["_law_stamps"]) X G c 72 rfl 72 rfl ⟨rfl, rfl, rfl, by decide +kernel, rfl, by decide +kernel, by decide +kernel⟩ (fun _ _ _ _ _ _ us hl => match us, hl with | [_], _ => rfl)
theorem hq__law_strange (c : He.SaysD faQ fnQ K) (X : K.In h) (G : h.Ns mainGlobals mg) : Kn (wdQ P w K mg base) "_law_strange" (2 + 1) (RB (wdQ P w K mg base) N__law_strange (defScope (top 101)) 2 (defBody (top 101)) 2) := kn_gen (W := wdQ P w K mg base) (ps := ["_law_size", "_law_layers"]) X G c 73 rfl 73 rfl ⟨rfl, rfl, rfl, by decide +kernel, rfl, by decide +kernel, by decide +kernel⟩ (fun _ _ _ _ _ _ us hl => match us, hl with | [_, _], _ => rfl)
theorem hq__law_compared (c : He.SaysD faQ fnQ K) (X : K.In h) (G : h.Ns mainGlobals mg) : Kn (wdQ P w K mg base) "_law_compared" (5 + 1) (RB (wdQ P w K mg base) N__law_compared (defScope (top 102)) 5 (defBody (top 102)) 3) := kn_gen (W := wdQ P w K mg base) (ps := ["_law_size", "_law_ones", "_law_twos"]) X G c 74 rfl 74 rfl ⟨rfl, rfl, rfl, by decide +kernel, rfl, by decide +kernel, by decide +kernel⟩ (fun _ _ _ _ _ _ us hl => match us, hl with | [_, _, _], _ => rfl)
theorem hq__law_resized (c : He.SaysD faQ fnQ K) (X : K.In h) (G : h.Ns mainGlobals mg) : Kn (wdQ P w K mg base) "_law_resized" (0 + 1) (RB (wdQ P w K mg base) N__law_resized (defScope (top 103)) 0 (defBody (top 103)) 2) := kn_gen (W := wdQ P w K mg base) (ps := ["_law_size", "_law_stamps"]) X G c 75 rfl 75 rfl ⟨rfl, rfl, rfl, by decide +kernel, rfl, by decide +kernel, by decide +kernel⟩ (fun _ _ _ _ _ _ us hl => match us, hl with | [_, _], _ => rfl)
theorem hq__law_shown (c : He.SaysD faQ fnQ K) (X : K.In h) (G : h.Ns mainGlobals mg) : Kn (wdQ P w K mg base) "_law_shown" (4 + 1) (RB (wdQ P w K mg base) N__law_shown (defScope (top 104)) 4 (defBody (top 104)) 4) := kn_gen (W := wdQ P w K mg base) (ps := ["_law_stamps", "_law_others", "_law_missing", "_law_sheet_here"]) X G c 76 rfl 76 rfl ⟨rfl, rfl, rfl, by decide +kernel, rfl, by decide +kernel, by decide +kernel⟩ (fun _ _ _ _ _ _ us hl => match us, hl with | [_, _, _, _], _ => rfl)
theorem hq__law_right (c : He.SaysD faQ fnQ K) (X : K.In h) (G : h.Ns mainGlobals mg) : Kn (wdQ P w K mg base) "_law_right" (6 + 1) (RB (wdQ P w K mg base) N__law_right (defScope (top 105)) 6 (defBody (top 105)) 4) := kn_gen (W := wdQ P w K mg base) (ps := ["_law_told", "_law_size", "_law_ones", "_law_twos"]) X G c 77 rfl 77 rfl ⟨rfl, rfl, rfl, by decide +kernel, rfl, by decide +kernel, by decide +kernel⟩ (fun _ _ _ _ _ _ us hl => match us, hl with | [_, _, _, _], _ => rfl)
theorem hq__law_reached (c : He.SaysD faQ fnQ K) (X : K.In h) (G : h.Ns mainGlobals mg) : Kn (wdQ P w K mg base) "_law_reached" (3 + 1) (RB (wdQ P w K mg base) N__law_reached (defScope (top 106)) 3 (defBody (top 106)) 2) := kn_gen (W := wdQ P w K mg base) (ps := ["_law_stamps", "_law_sheet_here"]) X G c 78 rfl 78 rfl ⟨rfl, rfl, rfl, by decide +kernel, rfl, by decide +kernel, by decide +kernel⟩ (fun _ _ _ _ _ _ us hl => match us, hl with | [_, _], _ => rfl)
theorem hq__law_word (c : He.SaysD faQ fnQ K) (X : K.In h) (G : h.Ns mainGlobals mg) : Kn (wdQ P w K mg base) "_law_word" (2 + 1) (RB (wdQ P w K mg base) N__law_word (defScope (top 107)) 2 (defBody (top 107)) 2) := kn_gen (W := wdQ P w K mg base) (ps := ["_law_first", "_law_second"]) X G c 79 rfl 79 rfl ⟨rfl, rfl, rfl, by decide +kernel, rfl, by decide +kernel, by decide +kernel⟩ (fun _ _ _ _ _ _ us hl => match us, hl with | [_, _], _ => rfl)
theorem hq__law_side_right (c : He.SaysD faQ fnQ K) (X : K.In h) (G : h.Ns mainGlobals mg) : Kn (wdQ P w K mg base) "_law_side_right" (3 + 1) (RB (wdQ P w K mg base) N__law_side_right (defScope (top 108)) 3 (defBody (top 108)) 5) := kn_gen (W := wdQ P w K mg base) (ps := ["_law_rows", "_law_missing", "_law_stamps", "_law_strange_here", "_law_reached_here"]) X G c 80 rfl 80 rfl ⟨rfl, rfl, rfl, by decide +kernel, rfl, by decide +kernel, by decide +kernel⟩ (fun _ _ _ _ _ _ us hl => match us, hl with | [_, _, _, _, _], _ => rfl)
theorem hq__law_forwards (c : He.SaysD faQ fnQ K) (X : K.In h) (G : h.Ns mainGlobals mg) : Kn (wdQ P w K mg base) "_law_forwards" (4 + 1) (RB (wdQ P w K mg base) N__law_forwards (defScope (top 109)) 4 (defBody (top 109)) 5) := kn_gen (W := wdQ P w K mg base) (ps := ["_law_told", "_law_size", "_law_ones", "_law_twos", "_law_sheet_here"]) X G c 81 rfl 81 rfl ⟨rfl, rfl, rfl, by decide +kernel, rfl, by decide +kernel, by decide +kernel⟩ (fun _ _ _ _ _ _ us hl => match us, hl with | [_, _, _, _, _], _ => rfl)
theorem hq__law_judged (c : He.SaysD faQ fnQ K) (X : K.In h) (G : h.Ns mainGlobals mg) : Kn (wdQ P w K mg base) "_law_judged" (10 + 1) (RB (wdQ P w K mg base) N__law_judged (defScope (top 110)) 10 (defBody (top 110)) 4) := kn_gen (W := wdQ P w K mg base) (ps := ["_law_former", "_law_latter", "_law_told", "_law_number"]) X G c 82 rfl 82 rfl ⟨rfl, rfl, rfl, by decide +kernel, rfl, by decide +kernel, by decide +kernel⟩ (fun _ _ _ _ _ _ us hl => match us, hl with | [_, _, _, _], _ => rfl)
theorem hq__law_crowds (c : He.SaysD faQ fnQ K) (X : K.In h) (G : h.Ns mainGlobals mg) : Kn (wdQ P w K mg base) "_law_crowds" (3 + 1) (RB (wdQ P w K mg base) N__law_crowds (defScope (top 111)) 3 (defBody (top 111)) 1) := kn_gen (W := wdQ P w K mg base) (ps := ["_law_script"]) X G c 83 rfl 83 rfl ⟨rfl, rfl, rfl, by decide +kernel, rfl, by decide +kernel, by decide +kernel⟩ (fun _ _ _ _ _ _ us hl => match us, hl with | [_], _ => rfl)
theorem hq__law_crowds_right (c : He.SaysD faQ fnQ K) (X : K.In h) (G : h.Ns mainGlobals mg) : Kn (wdQ P w K mg base) "_law_crowds_right" (6 + 1) (RB (wdQ P w K mg base) N__law_crowds_right (defScope (top 112)) 6 (defBody (top 112)) 1) := kn_gen (W := wdQ P w K mg base) (ps := ["_law_script"]) X G c 84 rfl 84 rfl ⟨rfl, rfl, rfl, by decide +kernel, rfl, by decide +kernel, by decide +kernel⟩ (fun _ _ _ _ _ _ us hl => match us, hl with | [_], _ => rfl)
theorem hk_compare_stocks (c : He.SaysD faQ fnQ K) (X : K.In h) (G : h.Ns mainGlobals mg) : KnK (wdQ P w K mg base) "compare_stocks" (10 + 1) ["two", "one"] (RB (wdQ P w K mg base) N_compare_stocks (defScope (top 53)) 10 (defBody (top 53)) 2) := knk_gen (W := wdQ P w K mg base) X G c 29 rfl 29 rfl ⟨rfl, rfl, rfl, by decide +kernel, rfl, by decide +kernel, by decide +kernel⟩ (fun _ _ _ _ _ _ _ _ => rfl)
theorem hk_strange_sheet (c : He.SaysD faQ fnQ K) (X : K.In h) (G : h.Ns mainGlobals mg) : KnK (wdQ P w K mg base) "strange_sheet" (3 + 1) ["two", "one"] (RB (wdQ P w K mg base) N_strange_sheet (defScope (top 49)) 3 (defBody (top 49)) 2) := knk_gen (W := wdQ P w K mg base) X G c 25 rfl 25 rfl ⟨rfl, rfl, rfl, by decide +kernel, rfl, by decide +kernel, by decide +kernel⟩ (fun _ _ _ _ _ _ _ _ => rfl)
theorem hi_Peeling (c : He.SaysD faQ fnQ K) (X : K.In h) (G : h.Ns mainGlobals mg) : KnI (wdQ P w K mg base) "Peeling" 0 (0 + 1) (RI (wdQ P w K mg base) N_Peeling___init__ (defScope (meth 21 0)) 0 (defBody (meth 21 0)) 4 0) := kni_gen (W := wdQ P w K mg base) (ps := ["self", "seen", "order", "left"]) X G c 87 rfl 87 rfl 119 rfl rfl ⟨rfl, rfl, rfl, by decide +kernel, rfl, by decide +kernel, by decide +kernel⟩ (fun _ _ _ _ _ _ us hl => match us, hl with | [_, _, _, _], _ => rfl) (by decide)
theorem hi_Stock (c : He.SaysD faQ fnQ K) (X : K.In h) (G : h.Ns mainGlobals mg) : KnI (wdQ P w K mg base) "Stock" 1 (4 + 1) (RI (wdQ P w K mg base) N_Stock___init__ (defScope (meth 38 0)) 4 (defBody (meth 38 0)) 3 1) := kni_gen (W := wdQ P w K mg base) (ps := ["self", "size", "stamps"]) X G c 88 rfl 88 rfl 124 rfl rfl ⟨rfl, rfl, rfl, by decide +kernel, rfl, by decide +kernel, by decide +kernel⟩ (fun _ _ _ _ _ _ us hl => match us, hl with | [_, _, _], _ => rfl) (by decide)
theorem hi_StampMaking (c : He.SaysD faQ fnQ K) (X : K.In h) (G : h.Ns mainGlobals mg) : KnI (wdQ P w K mg base) "StampMaking" 2 (0 + 1) (RI (wdQ P w K mg base) N_StampMaking___init__ (defScope (meth 41 0)) 0 (defBody (meth 41 0)) 4 2) := kni_gen (W := wdQ P w K mg base) (ps := ["self", "made", "row", "cells"]) X G c 89 rfl 89 rfl 130 rfl rfl ⟨rfl, rfl, rfl, by decide +kernel, rfl, by decide +kernel, by decide +kernel⟩ (fun _ _ _ _ _ _ us hl => match us, hl with | [_, _, _, _], _ => rfl) (by decide)
theorem hi_Comparison (c : He.SaysD faQ fnQ K) (X : K.In h) (G : h.Ns mainGlobals mg) : KnI (wdQ P w K mg base) "Comparison" 3 (0 + 1) (RI (wdQ P w K mg base) N_Comparison___init__ (defScope (meth 47 0)) 0 (defBody (meth 47 0)) 7 3) := kni_gen (W := wdQ P w K mg base) (ps := ["self", "word", "rows", "other_rows", "missing", "other_missing", "sheet"]) X G c 90 rfl 90 rfl 135 rfl rfl ⟨rfl, rfl, rfl, by decide +kernel, rfl, by decide +kernel, by decide +kernel⟩ (fun _ _ _ _ _ _ us hl => match us, hl with | [_, _, _, _, _, _, _], _ => rfl) (by decide)
theorem hm___len__ (c : He.SaysD faQ fnQ K) : KnM (wdQ P w K mg base) 1 "__len__" (2 + 1) (RB (wdQ P w K mg base) N_Stock___len__ (defScope (meth 38 2)) 2 (defBody (meth 38 2)) 1) := knm_gen (W := wdQ P w K mg base) (ps := ["self"]) c 91 rfl 142 rfl rfl ⟨rfl, rfl, rfl, by decide +kernel, rfl, by decide +kernel, by decide +kernel⟩ (fun _ _ _ _ _ _ us hl => match us, hl with | [_], _ => rfl)
theorem hm___contains__ (c : He.SaysD faQ fnQ K) : KnM (wdQ P w K mg base) 1 "__contains__" (2 + 1) (RB (wdQ P w K mg base) N_Stock___contains__ (defScope (meth 38 3)) 2 (defBody (meth 38 3)) 2) := knm_gen (W := wdQ P w K mg base) (ps := ["self", "name"]) c 92 rfl 143 rfl rfl ⟨rfl, rfl, rfl, by decide +kernel, rfl, by decide +kernel, by decide +kernel⟩ (fun _ _ _ _ _ _ us hl => match us, hl with | [_, _], _ => rfl)
theorem hm_place (c : He.SaysD faQ fnQ K) : KnM (wdQ P w K mg base) 1 "place" (0 + 1) (RB (wdQ P w K mg base) N_Stock_place (defScope (meth 38 7)) 0 (defBody (meth 38 7)) 2) := knm_gen (W := wdQ P w K mg base) (ps := ["self", "name"]) c 93 rfl 144 rfl rfl ⟨rfl, rfl, rfl, by decide +kernel, rfl, by decide +kernel, by decide +kernel⟩ (fun _ _ _ _ _ _ us hl => match us, hl with | [_, _], _ => rfl)
theorem hm_stamp (c : He.SaysD faQ fnQ K) : KnM (wdQ P w K mg base) 1 "stamp" (2 + 1) (RB (wdQ P w K mg base) N_Stock_stamp (defScope (meth 38 8)) 2 (defBody (meth 38 8)) 2) := knm_gen (W := wdQ P w K mg base) (ps := ["self", "name"]) c 94 rfl 145 rfl rfl ⟨rfl, rfl, rfl, by decide +kernel, rfl, by decide +kernel, by decide +kernel⟩ (fun _ _ _ _ _ _ us hl => match us, hl with | [_, _], _ => rfl)
theorem hc0 (c : He.SaysD faQ fnQ K) : CFa K (clQ K 0) 0 := by
  refine ⟨He.cls_ok (x := "Peeling") (c.fact 118 rfl), fun f hf => ?_⟩
  simp only [flds, List.mem_cons, List.not_mem_nil, or_false] at hf
  rcases hf with rfl | rfl | rfl
  · exact He.noat_ok (x := "Peeling") (c.fact 120 rfl)
  · exact He.noat_ok (x := "Peeling") (c.fact 121 rfl)
  · exact He.noat_ok (x := "Peeling") (c.fact 122 rfl)
theorem hc1 (c : He.SaysD faQ fnQ K) : CFa K (clQ K 1) 1 := by
  refine ⟨He.cls_ok (x := "Stock") (c.fact 123 rfl), fun f hf => ?_⟩
  simp only [flds, List.mem_cons, List.not_mem_nil, or_false] at hf
  rcases hf with rfl | rfl | rfl | rfl
  · exact He.noat_ok (x := "Stock") (c.fact 125 rfl)
  · exact He.noat_ok (x := "Stock") (c.fact 126 rfl)
  · exact He.noat_ok (x := "Stock") (c.fact 127 rfl)
  · exact He.noat_ok (x := "Stock") (c.fact 128 rfl)
theorem hc2 (c : He.SaysD faQ fnQ K) : CFa K (clQ K 2) 2 := by
  refine ⟨He.cls_ok (x := "StampMaking") (c.fact 129 rfl), fun f hf => ?_⟩
  simp only [flds, List.mem_cons, List.not_mem_nil, or_false] at hf
  rcases hf with rfl | rfl | rfl
  · exact He.noat_ok (x := "StampMaking") (c.fact 131 rfl)
  · exact He.noat_ok (x := "StampMaking") (c.fact 132 rfl)
  · exact He.noat_ok (x := "StampMaking") (c.fact 133 rfl)
theorem hc3 (c : He.SaysD faQ fnQ K) : CFa K (clQ K 3) 3 := by
  refine ⟨He.cls_ok (x := "Comparison") (c.fact 134 rfl), fun f hf => ?_⟩
  simp only [flds, List.mem_cons, List.not_mem_nil, or_false] at hf
  rcases hf with rfl | rfl | rfl | rfl | rfl | rfl
  · exact He.noat_ok (x := "Comparison") (c.fact 136 rfl)
  · exact He.noat_ok (x := "Comparison") (c.fact 137 rfl)
  · exact He.noat_ok (x := "Comparison") (c.fact 138 rfl)
  · exact He.noat_ok (x := "Comparison") (c.fact 139 rfl)
  · exact He.noat_ok (x := "Comparison") (c.fact 140 rfl)
  · exact He.noat_ok (x := "Comparison") (c.fact 141 rfl)
theorem wo_of (c : He.SaysD faQ fnQ K) (cq : exQ K = true) (cg : fnAt K (pgA K) = dP.val) (X : K.In h) (G : h.Ns mainGlobals mg) : Wo (wdQ P w K mg base) where
  kn_is_layer := hq_is_layer c X G
  kn_cells_of := hq_cells_of c X G
  kn_agree := hq_agree c X G
  kn_freed := hq_freed c X G
  kn_empty_layer := hq_empty_layer c X G
  kn_press := hq_press c X G
  kn_frozen := hq_frozen c X G
  kn_cell_set := hq_cell_set c X G
  kn_peeled := hq_peeled c X G
  kn_frees_marks := hq_frees_marks c X G
  kn_first_to_peel := hq_first_to_peel c X G
  kn_peel_by := hq_peel_by c X G
  kn_peeling := hq_peeling c X G
  kn_covers_some := hq_covers_some c X G
  kn_contradicts := hq_contradicts c X G
  kn_fast_for := hq_fast_for c X G
  kn_is_fast := hq_is_fast c X G
  kn_is_name := hq_is_name c X G
  kn_is_stamp := hq_is_stamp c X G
  kn_known_names := hq_known_names c X G
  kn_covers_only := hq_covers_only c X G
  kn_inner_stock := hq_inner_stock c X G
  kn_stamp_making := hq_stamp_making c X G
  kn_is_stamp_refusal := hq_is_stamp_refusal c X G
  kn_strange_mark := hq_strange_mark c X G
  kn_strange_sheet := hq_strange_sheet c X G
  kn_rows_by := hq_rows_by c X G
  kn_first_missing := hq_first_missing c X G
  kn_comparison_word := hq_comparison_word c X G
  kn_compare_stocks := hq_compare_stocks c X G
  kn_row_layers := hq_row_layers c X G
  kn_press_all := hq_press_all c X G
  kn_net_of := hq_net_of c X G
  kn_net_stamp := hq_net_stamp c X G
  kn_is_row_for := hq_is_row_for c X G
  kn_are_rows_for := hq_are_rows_for c X G
  kn_is_missing_right := hq_is_missing_right c X G
  kn_is_strange := hq_is_strange c X G
  kn_is_comparison := hq_is_comparison c X G
  kn__law_whole := hq__law_whole c X G
  kn__law_cell := hq__law_cell c X G
  kn__law_digits := hq__law_digits c X G
  kn__law_marks := hq__law_marks c X G
  kn__law_stamp := hq__law_stamp c X G
  kn__law_named := hq__law_named c X G
  kn__law_base := hq__law_base c X G
  kn__law_press := hq__law_press c X G
  kn__law_agree := hq__law_agree c X G
  kn__law_free := hq__law_free c X G
  kn__law_layer_of := hq__law_layer_of c X G
  kn__law_peel := hq__law_peel c X G
  kn__law_nets := hq__law_nets c X G
  kn__law_changed := hq__law_changed c X G
  kn__law_thin := hq__law_thin c X G
  kn__law_recoloured := hq__law_recoloured c X G
  kn__law_crowd := hq__law_crowd c X G
  kn__law_derived := hq__law_derived c X G
  kn__law_two := hq__law_two c X G
  kn__law_two_or_crowd := hq__law_two_or_crowd c X G
  kn__law_wider := hq__law_wider c X G
  kn__law_widened := hq__law_widened c X G
  kn__law_widened_two := hq__law_widened_two c X G
  kn__law_sheet := hq__law_sheet c X G
  kn__law_inner := hq__law_inner c X G
  kn__law_made := hq__law_made c X G
  kn__law_net := hq__law_net c X G
  kn__law_row_told := hq__law_row_told c X G
  kn__law_rows_told := hq__law_rows_told c X G
  kn__law_cells_told := hq__law_cells_told c X G
  kn__law_text_told := hq__law_text_told c X G
  kn__law_stock_told := hq__law_stock_told c X G
  kn__law_copy := hq__law_copy c X G
  kn__law_tuples := hq__law_tuples c X G
  kn__law_strange := hq__law_strange c X G
  kn__law_compared := hq__law_compared c X G
  kn__law_resized := hq__law_resized c X G
  kn__law_shown := hq__law_shown c X G
  kn__law_right := hq__law_right c X G
  kn__law_reached := hq__law_reached c X G
  kn__law_word := hq__law_word c X G
  kn__law_side_right := hq__law_side_right c X G
  kn__law_forwards := hq__law_forwards c X G
  kn__law_judged := hq__law_judged c X G
  kn__law_crowds := hq__law_crowds c X G
  kn__law_crowds_right := hq__law_crowds_right c X G
  kk_compare_stocks := hk_compare_stocks c X G
  kk_strange_sheet := hk_strange_sheet c X G
  ki_Peeling := hi_Peeling c X G
  ki_Stock := hi_Stock c X G
  ki_StampMaking := hi_StampMaking c X G
  ki_Comparison := hi_Comparison c X G
  kp_names := hp_names cq cg
  km___len__ := hm___len__ c
  km___contains__ := hm___contains__ c
  km_place := hm_place c
  km_stamp := hm_stamp c
  cf0 := hc0 c
  cf1 := hc1 c
  cf2 := hc2 c
  cf3 := hc3 c
  ci1 := ⟨(hc1 c).cls, (exq_ok cq).c1, (exq_ok cq).hn, (exq_ok cq).ht, (exq_ok cq).m1⟩
  ci3 := ⟨(hc3 c).cls, (exq_ok cq).c3, (exq_ok cq).hn, (exq_ok cq).ht, (exq_ok cq).m3⟩
  n_len := He.free_ok X G (x := "len") (c.fact 96 rfl)
  n_int := He.free_ok X G (x := "int") (c.fact 97 rfl)
  n_str := He.free_ok X G (x := "str") (c.fact 98 rfl)
  n_bool := He.free_ok X G (x := "bool") (c.fact 99 rfl)
  n_range := He.free_ok X G (x := "range") (c.fact 100 rfl)
  n_zip := He.free_ok X G (x := "zip") (c.fact 101 rfl)
  n_enumerate := He.free_ok X G (x := "enumerate") (c.fact 102 rfl)
  n_isinstance := He.free_ok X G (x := "isinstance") (c.fact 103 rfl)
  n_min := He.free_ok X G (x := "min") (c.fact 104 rfl)
  n_max := He.free_ok X G (x := "max") (c.fact 105 rfl)
  n_sum := He.free_ok X G (x := "sum") (c.fact 106 rfl)
  n_tuple := He.free_ok X G (x := "tuple") (c.fact 107 rfl)
  n_list := He.free_ok X G (x := "list") (c.fact 108 rfl)
  n_sorted := He.free_ok X G (x := "sorted") (c.fact 109 rfl)
  n_set := He.free_ok X G (x := "set") (c.fact 110 rfl)
  g_MARKS := He.str_ok X G (x := "MARKS") (c.fact 112 rfl)
  g_SIGNS := He.str_ok X G (x := "SIGNS") (c.fact 113 rfl)
  g_LETTERS := He.str_ok X G (x := "LETTERS") (c.fact 114 rfl)
  g_DIGITS := He.str_ok X G (x := "DIGITS") (c.fact 115 rfl)
  g_MOST_CELLS := He.int_ok X G (x := "MOST_CELLS") (c.fact 116 rfl)
  g_LONGEST_NAME := He.int_ok X G (x := "LONGEST_NAME") (c.fact 117 rfl)
  g_WORDS := ⟨_, He.glo_ok X G (x := "WORDS") (c.fact 95 rfl), fun H => He.tupB_ok (exq_ok cq).wd H⟩
  g_Stock := He.glo_ok X G (x := "Stock") (c.fact 88 rfl)
  g_Comparison := He.glo_ok X G (x := "Comparison") (c.fact 90 rfl)
theorem rx_of (c : He.SaysD faQ fnQ K) (cq : exQ K = true) (X : K.In h) (G : h.Ns mainGlobals mg) : Rx (wdQ P w K mg base) (He.ga K "SizesDiffer") (He.ga K "NameTaken") (He.ga K "UnknownName") (He.ga K "StampError") (He.ma K (He.ga K "SizesDiffer") "__init__") := by
  have z := exq_ok cq
  exact ⟨He.glo_ok X G (x := "SizesDiffer") (c.fact 91 rfl), He.glo_ok X G (x := "NameTaken") (c.fact 92 rfl), He.glo_ok X G (x := "UnknownName") (c.fact 93 rfl), He.glo_ok X G (x := "StampError") (c.fact 94 rfl), He.free_ok X G (x := "ValueError") (c.fact 111 rfl), z.ox, z.xf, z.one, z.two, z.cl, z.ha, z.hn, z.ht, z.hm, z.k1, z.k2, z.k3, z.k4, z.e1, z.e2, z.ii, z.it, c.def_ 95 rfl, (let ⟨fd, F⟩ := c.def_ 29 rfl; ⟨_, fd, F, He.glo_ok X G (x := "compare_stocks") (c.fact 29 rfl)⟩), (let ⟨fd, F⟩ := c.def_ 25 rfl; ⟨_, fd, F, He.glo_ok X G (x := "strange_sheet") (c.fact 25 rfl)⟩)⟩
/-! ### the law's promise -/
def LawR (ds : List D) (d : D) : Prop := ∃ ns : List Int, ds = [.q ns] ∧ d = .b true
theorem law_fn (s : seeQ K = valQ) (X : K.In h) (G : h.Ns mainGlobals mg) : ∃ fd : FuncData, (∀ (s : Shared) (v : Value), BindsTo s fd ⟨[v], []⟩ [("_law_script", v)]) ∧ mg "law" = some (.ref (He.ga K "law")) ∧ ∀ base : Heap, FnOk P w K mg base CX0 13 (He.ga K "law") fd ["_law_script"] (spD ⟨K, clQ K⟩ LawR) := by
  obtain ⟨c, cg, cq⟩ := says_of s
  obtain ⟨fr, FR⟩ := c.def_ 85 rfl
  obtain ⟨fl, FL⟩ := c.def_ 86 rfl
  have b := FunD.bindsA (ps := ["_law_script"]) FL fun _ _ _ _ _ _ us hl => match us, hl with | [_], _ => rfl
  refine ⟨fl, fun s v => b s [v] rfl, He.glo_ok X G (c.fact 86 rfl), fun base => ?_⟩
  have F : Wo (wdQ P w K mg base) := wo_of c cq cg X G
  have R := rx_of (P := P) (w := w) (base := base) c cq X G
  have KR : Kn (wdQ P w K mg base) "_law_refused" 5 RefR := ⟨_, fr, _, ok_refused F R FR, He.glo_ok X G (c.fact 85 rfl), FR.kp, FR.bindsN fun _ _ _ _ _ _ us hl => match us, hl with | [_, _, _, _], _ => rfl⟩
  refine fn_mk (W := wdQ P w K mg base) (N := N_law) FL ⟨rfl, rfl, rfl, by decide +kernel, rfl, by decide +kernel, by decide +kernel⟩ fun ds d z => ?_
  obtain ⟨ns, rfl, rfl⟩ := z
  exact sp_law F KR ns
end
end Q8
open PySem PySem.W PySem.Calls PyProof.Rows
set_option maxRecDepth 100000 in
set_option maxHeartbeats 0 in
theorem PySem.Challenge.cw_stampsheets_k38_compare_whole_holds : PySem.Challenge.rw_stampsheets_k38_compare_whole.Holds := by
  w_on; o_law
  refine HandSHeadRun.head_any (r := OpenLaw.row PySem.Challenge.rw_stampsheets_k38_compare_whole) (q := Q8.viewQ) (H := Q8.hkQ) (ob := Q8.obQ) (M := 40000) (loose := Q8.loQ) (d := HandSHeadRun.topDef (OpenLaw.row PySem.Challenge.rw_stampsheets_k38_compare_whole).prog 114) (kwd := []) Q8.obQ_eq
    (by kernel_rfl) (fun s => by kernel_rfl) Q8.runQ (by kernel_rfl) (by kernel_rfl) (by kernel_rfl) (by rfl) (by first | assumption | decide +kernel) (by decide +kernel) ⟨rfl, rfl, rfl, rfl, rfl, by decide +kernel⟩ ?hw ?hc
  case hw => w_witness2
  case hc =>
    refine L2.walk_ofE (l := PySem.Challenge.rw_stampsheets_k38_compare_whole) (n := 63) (k := 13) (x := "_law_script") (CX := L2.CX0) rfl (by decide) (by kernel_rfl) ⟨rfl, by decide, by decide⟩ ?F (fun _ _ _ _ z => z)
    intro w mg fa h Y G hmg0
    obtain ⟨K, KX, c⟩ := Y
    have hmg : mg ("law" : PySem.Str) = some (.ref fa) := by
      have e : (HandSHeadRun.topDef (OpenLaw.row PySem.Challenge.rw_stampsheets_k38_compare_whole).prog 114).name = ("law" : PySem.Str) := by kernel_rfl
      rw [← e]
      exact hmg0
    obtain ⟨fd, hb, hg, hF⟩ := Q8.law_fn (P := (PySem.Challenge.rw_stampsheets_k38_compare_whole).prog) (w := w) c KX G
    have e := hmg.symm.trans hg
    cases e
    exact ⟨K, fd, _, KX, hb, fun H a ns hl _ hS => ⟨[.q ns], .b true, [], ⟨ns, rfl, rfl⟩, Q8.Den.cons (by simp only [Q8.Den]; exact ⟨a, rfl, by rw [Q8.hid_nil]; exact hS⟩) Q8.DenL.nil, (by intro i j p h; simp at h), (by intro p h; cases h), fun v H' _ hd => by simpa only [Q8.Den] using hd⟩, fun base _ _ => hF base⟩
