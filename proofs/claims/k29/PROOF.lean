import PyProof.Rows.All
import Wide.All
import OpenK.AllK
import Wide.FinOn
import HandS.ForMost
import HandS.ForExc
import HandS.Wide
import HandS.Star
import HandS.IsInst
import HandS.Style
import HandS.Property
import HandS.Codes
import HandS.Flow
import HandS.TupAny
import HandS.More
import KE.KOpsOwn
import HandS.Conv
import HandS.Dict
import HandS.ForSpec
import HandS.ExcSuper
import KE.KExcSuper
import KE.KSuperObj
import HandS.List
import HandS.EndBits
import PySem.Challenge.RW_everyorder_k29_products_of_runs
set_option Elab.async false
set_option linter.all false
section
set_option maxRecDepth 100000
set_option maxHeartbeats 1000000
/-! The data layer: values as plain data, the heap hidden. -/
namespace DL
open PySem PySem.Spec PyProof.Rows L2

/-! ### data -/
inductive D where
  | non | bl (b : Bool) | int (i : Int) | str (x : Str) | ref (a : Addr)
  | tup (xs : List D) | lst (xs : List D) | ins (C : Addr) (nm : List Str) (xs : List D)
  | scr (ns : List Int)

/-- the value v is the data d, by what stands in H -/
inductive Is (K : PySem.W.Frag) (H : Hp) : D → V → Prop
  | non : Is K H .non .non
  | bl (b : Bool) : Is K H (.bl b) (.bl b)
  | int (i : Int) : Is K H (.int i) (.int i)
  | str (x : Str) : Is K H (.str x) (.str x)
  | ref (a : Addr) : Is K H (.ref a) (.ref a)
  | scr {a : Addr} {ns : List Int} (h : SqL K H a (ns.map V.int)) : Is K H (.scr ns) (.ref a)
  | tup {a : Addr} {vs : List V} {xs : List D} (h : SqT K H a vs) (l : vs.length = xs.length) (k : ∀ (i : Nat) d v, xs[i]? = some d → vs[i]? = some v → Is K H d v) : Is K H (.tup xs) (.ref a)
  | lst {a : Addr} {vs : List V} {xs : List D} (h : H a = some (.lst vs)) (l : vs.length = xs.length) (k : ∀ (i : Nat) d v, xs[i]? = some d → vs[i]? = some v → Is K H d v) : Is K H (.lst xs) (.ref a)
  | ins {a C dx : Addr} {nm : List Str} {fs : List (Str × V)} {xs : List D} (h : H a = some (.ins C dx fs)) (n : fs.map (·.1) = nm) (l : fs.length = xs.length)
      (k : ∀ (i : Nat) d p, xs[i]? = some d → fs[i]? = some p → Is K H d p.2) : Is K H (.ins C nm xs) (.ref a)

/-- a row of values is a row of data -/
def All (K : PySem.W.Frag) (H : Hp) (ds : List D) (vs : List V) : Prop := vs.length = ds.length ∧ ∀ (i : Nat) d v, ds[i]? = some d → vs[i]? = some v → Is K H d v

section
variable {K : PySem.W.Frag} {H H' : Hp} {d : D} {v : V}
theorem seqT_mono {a : Addr} {xs : List V} (e : Same H H') (h : SqT K H a xs) : SqT K H' a xs := by
  rcases h with h | h
  · rcases h with h | ⟨o, h⟩
    · exact .inl (.inl (e _ _ h))
    · exact .inl (.inr ⟨o, e _ _ h⟩)
  · exact .inr h
theorem seqL_mono {a : Addr} {xs : List V} (e : Same H H') (h : SqL K H a xs) : SqL K H' a xs := by
  rcases h with h | h
  · rcases h with h | ⟨o, h⟩
    · exact .inl (.inl (e _ _ h))
    · exact .inl (.inr ⟨o, e _ _ h⟩)
  · exact .inr h
theorem Is.mono (e : Same H H') (h : Is K H d v) : Is K H' d v := by
  induction h with
  | non => exact .non
  | bl b => exact .bl b
  | int i => exact .int i
  | str x => exact .str x
  | ref a => exact .ref a
  | scr h => exact .scr (seqL_mono e h)
  | tup h l k ih => exact .tup (seqT_mono e h) l ih
  | lst h l k ih => exact .lst (e _ _ h) l ih
  | ins h n l k ih => exact .ins (e _ _ h) n l ih
theorem All.mono {ds : List D} {vs : List V} (e : Same H H') (h : All K H ds vs) : All K H' ds vs := ⟨h.1, fun i d v a b => (h.2 i d v a b).mono e⟩
theorem All.nil : All K H [] [] := ⟨rfl, fun i d v a _ => by simp at a⟩
theorem All.cons {ds : List D} {vs : List V} (h : Is K H d v) (r : All K H ds vs) : All K H (d :: ds) (v :: vs) := by
  refine ⟨by simp [r.1], fun i d' v' a b => ?_⟩
  cases i with
  | zero =>
    simp only [List.getElem?_cons_zero, Option.some.injEq] at a b
    subst a; subst b; exact h
  | succ i =>
    simp only [List.getElem?_cons_succ] at a b
    exact r.2 i d' v' a b
theorem All.uncons {ds : List D} {vs : List V} (h : All K H (d :: ds) vs) : ∃ v us, vs = v :: us ∧ Is K H d v ∧ All K H ds us := by
  cases vs with
  | nil => have := h.1; simp at this
  | cons v us =>
    refine ⟨v, us, rfl, h.2 0 d v rfl rfl, ?_, fun i d' v' a b => h.2 (i + 1) d' v' (by simpa using a) (by simpa using b)⟩
    have := h.1; simpa using this
theorem All.unnil {vs : List V} (h : All K H [] vs) : vs = [] := by
  have := h.1; simpa using this
theorem All.append {ds es : List D} {vs us : List V} (h : All K H ds vs) (h' : All K H es us) : All K H (ds ++ es) (vs ++ us) := by
  induction ds generalizing vs with
  | nil => rw [h.unnil]; exact h'
  | cons d ds ih =>
    obtain ⟨v, ws, rfl, h1, h2⟩ := h.uncons
    exact .cons h1 (ih h2)
theorem All.get {ds : List D} {vs : List V} (h : All K H ds vs) {i : Nat} (a : ds[i]? = some d) : ∃ v, vs[i]? = some v ∧ Is K H d v := by
  have hi : i < ds.length := (List.getElem?_eq_some_iff.mp a).1
  have hv : i < vs.length := by rw [h.1]; exact hi
  exact ⟨vs[i], List.getElem?_eq_getElem hv, h.2 i d _ a (List.getElem?_eq_getElem hv)⟩
theorem All.set {ds : List D} {vs : List V} (h : All K H ds vs) (j : Nat) (hd : Is K H d v) : All K H (ds.set j d) (vs.set j v) := by
  refine ⟨by simp [h.1], fun i d' v' a b => ?_⟩
  rw [List.getElem?_set] at a b
  by_cases e : j = i
  · subst e
    simp only [if_true] at a b
    split at a
    · split at b
      · cases a; cases b; exact hd
      · cases b
    · cases a
  · rw [if_neg e] at a b
    exact h.2 i d' v' a b
theorem All.ints : ∀ {ns : List Int} {vs : List V}, All K H (ns.map D.int) vs → vs = ns.map V.int := by
  intro ns
  induction ns with
  | nil => intro vs h; exact h.unnil
  | cons n ns ih =>
    intro vs h
    obtain ⟨v, us, rfl, h1, h2⟩ := h.uncons
    cases h1
    rw [ih h2]; rfl
theorem All.of_ints (ns : List Int) : All K H (ns.map D.int) (ns.map V.int) := by
  induction ns with
  | nil => exact .nil
  | cons n ns ih => exact .cons (.int n) ih
end

/-! ### slots -/
inductive Sl where
  /-- a value that never changes -/
  | sh (d : D)
  /-- a list of this frame's own -/
  | ow (xs : List D)
  /-- the pen: at most n draws so far -/
  | pn (n : Nat)
  /-- a dict of this frame's own -/
  | dk (kvs : List (Key × D))
  /-- the object that is being made -/
  | me (C : Addr) (nm : List Str) (xs : List D)
abbrev Rho := List (Option Sl)
def Sl.isOw : Sl → Bool
  | .sh _ => false
  | _ => true
def Sl.isMu : Sl → Bool
  | .pn _ => true
  | .dk _ => true
  | .me _ _ _ => true
  | _ => false
@[simp] def Rho.g : List (Option Sl) → Nat → Option Sl
  | [], _ => none
  | s :: _, 0 => s
  | _ :: r, n + 1 => Rho.g r n
theorem Rho.g_eq : ∀ (ρ : Rho) (i : Nat) {s : Sl}, Rho.g ρ i = some s → ρ[i]? = some (some s)
  | [], _, _, h => by cases h
  | o :: _, 0, s, h => by
    have h' : o = some s := h
    rw [h']; rfl
  | _ :: r, n + 1, s, h => by
    rw [List.getElem?_cons_succ]
    exact Rho.g_eq r n h
theorem Rho.g_of {ρ : Rho} {i : Nat} {s : Sl} (h : ρ[i]? = some (some s)) : Rho.g ρ i = some s := by
  induction ρ generalizing i with
  | nil => simp at h
  | cons o r ih =>
    cases i with
    | zero =>
      simp only [List.getElem?_cons_zero, Option.some.injEq] at h
      rw [h]; rfl
    | succ i => exact ih (by simpa using h)
@[simp] def Rho.s : List (Option Sl) → Nat → Option Sl → List (Option Sl)
  | [], _, _ => []
  | _ :: r, 0, x => x :: r
  | o :: r, n + 1, x => o :: Rho.s r n x
theorem Rho.s_eq : ∀ (ρ : Rho) (i : Nat) (x : Option Sl), Rho.s ρ i x = ρ.set i x
  | [], _, _ => rfl
  | _ :: _, 0, _ => rfl
  | o :: r, n + 1, x => by
    show o :: Rho.s r n x = (o :: r).set (n + 1) x
    rw [Rho.s_eq r n x]; rfl

/-- what is fixed while a def's body runs: the frame's heap and the heap at the entry, the thing that may be changed, what is wanted of an exception -/
structure Cq where
  K : PySem.W.Frag
  G0 : Hp
  E0 : Hp
  mu : Option Addr
  E : XK
  XP : Addr → List Str → List D → Prop
  ex : ∀ C nm ds dd (vs : List V) G' H', XP C nm ds → Same G0 G' → Same G' H' → (∀ a o, E0 a = some o → mu ≠ some a → H' a = some o) → (∀ a o, G' a = some o → G0 a = some o ∨ E0 a = none) →
    E0 dd = none → H' dd = some (.xd (nm.zip vs)) → All K G' ds vs → E (.ref C) (some dd) H'

/-- the pen at p -/
def PenAt (K : PySem.W.Frag) (G H : Hp) (p : Addr) (n : Nat) : Prop :=
  ∃ (ac : Addr) (ns : List Int) (at_ left : Int), H p = some (.dK [(.inr "cells", .ref ac), (.inr "at", .int at_), (.inr "left", .int left)]) ∧ G ac = some (.lst (ns.map V.int)) ∧
    ns.length ≤ 63 ∧ 0 ≤ at_ ∧ at_ ≤ n ∧ 0 ≤ left

def SlOk (K : PySem.W.Frag) (G H : Hp) : Sl → V → Prop
  | .sh d, v => Is K G d v
  | .ow xs, v => ∃ (l : Addr) (vs : List V), v = .ref l ∧ H l = some (.lst vs) ∧ G l = none ∧ All K G xs vs
  | .pn n, v => ∃ p : Addr, v = .ref p ∧ PenAt K G H p n ∧ G p = none
  | .dk kvs, v => ∃ (l : Addr) (vs : List (Key × V)), v = .ref l ∧ H l = some (.dK vs) ∧ G l = none ∧ vs.map (·.1) = kvs.map (·.1) ∧ All K G (kvs.map (·.2)) (vs.map (·.2))
  | .me C nm xs, v => ∃ (a dx : Addr) (fs : List (Str × V)), v = .ref a ∧ H a = some (.ins C dx fs) ∧ G a = none ∧ fs.map (·.1) = nm ∧ All K G xs (fs.map (·.2))

structure StOk (c : Cq) (σ : L2.St) (ρ : Rho) (G H : Hp) : Prop where
  gg : Same c.G0 G
  gh : Same G H
  eh : ∀ a o, c.E0 a = some o → c.mu ≠ some a → H a = some o
  mh : ∀ a, c.mu = some a → ∃ o, H a = some o
  nw : ∀ a o, G a = some o → c.G0 a = some o ∨ c.E0 a = none
  len : σ.length = ρ.length
  sl : ∀ (i : Nat) s, ρ[i]? = some (some s) → ∃ v, σ[i]? = some (some v) ∧ SlOk c.K G H s v ∧ ∀ l, s.isOw = true → v = .ref l → c.E0 l = none ∨ (s.isMu = true ∧ c.mu = some l)
  mo : ∀ (i : Nat) s, ρ[i]? = some (some s) → s.isMu = true → ∀ l, σ[i]? = some (some (.ref l)) → ∀ p, c.mu = some p → l = p
  dj : ∀ (i j : Nat) s s', i ≠ j → ρ[i]? = some (some s) → ρ[j]? = some (some s') → s.isOw = true → s'.isOw = true → ∀ l, σ[i]? = some (some (.ref l)) → σ[j]? ≠ some (some (.ref l))

theorem Sl.ow_ref {K : PySem.W.Frag} {G H : Hp} {s : Sl} {v : V} (h : SlOk K G H s v) (o : s.isOw = true) : ∃ l u, v = .ref l ∧ H l = some u ∧ G l = none := by
  cases s with
  | sh d => cases o
  | ow xs => obtain ⟨l, vs, rfl, h1, h2, _⟩ := h; exact ⟨l, _, rfl, h1, h2⟩
  | pn n => obtain ⟨p, rfl, ⟨ac, ns, a, b, h1, _⟩, h2⟩ := h; exact ⟨p, _, rfl, h1, h2⟩
  | dk kvs => obtain ⟨l, vs, rfl, h1, h2, _⟩ := h; exact ⟨l, _, rfl, h1, h2⟩
  | me C nm xs => obtain ⟨a, dx, fs, rfl, h1, h2, _⟩ := h; exact ⟨a, _, rfl, h1, h2⟩

/-- a slot's content where the frame has grown and its own object stands -/
theorem SlOk.mono {K : PySem.W.Frag} {G H G' H' : Hp} {s : Sl} {v : V} (h : SlOk K G H s v) (g : Same G G') (k : ∀ l, s.isOw = true → v = .ref l → H' l = H l ∧ G' l = none) : SlOk K G' H' s v := by
  cases s with
  | sh d => exact Is.mono g h
  | ow xs =>
    obtain ⟨l, vs, rfl, h1, h2, h3⟩ := h
    obtain ⟨e1, e2⟩ := k l rfl rfl
    exact ⟨l, vs, rfl, e1.trans h1, e2, h3.mono g⟩
  | pn n =>
    obtain ⟨p, rfl, ⟨ac, ns, a, b, h1, h4, h5⟩, h2⟩ := h
    obtain ⟨e1, e2⟩ := k p rfl rfl
    exact ⟨p, rfl, ⟨ac, ns, a, b, e1.trans h1, g _ _ h4, h5⟩, e2⟩
  | dk kvs =>
    obtain ⟨l, vs, rfl, h1, h2, h3, h4⟩ := h
    obtain ⟨e1, e2⟩ := k l rfl rfl
    exact ⟨l, vs, rfl, e1.trans h1, e2, h3, h4.mono g⟩
  | me C nm xs =>
    obtain ⟨a, dx, fs, rfl, h1, h2, h3, h4⟩ := h
    obtain ⟨e1, e2⟩ := k a rfl rfl
    exact ⟨a, dx, fs, rfl, e1.trans h1, e2, h3, h4.mono g⟩

section
variable {c : Cq} {σ : L2.St} {ρ : Rho} {G H G' H' : Hp}
/-- the heaps grow: nothing that stood is changed -/
theorem StOk.grow (S : StOk c σ ρ G H) (hg : Same G G') (hh : Same H H') (gh : Same G' H') (nw : ∀ a o, G' a = some o → G a = some o ∨ H a = none) : StOk c σ ρ G' H' where
  gg := S.gg.trans hg
  gh := gh
  eh := fun a o e m => hh _ _ (S.eh a o e m)
  mh := fun a m => by
    obtain ⟨o, h⟩ := S.mh a m
    exact ⟨o, hh _ _ h⟩
  nw := fun a o e => by
    rcases nw a o e with h | h
    · exact S.nw a o h
    · right
      cases h0 : c.E0 a with
      | none => rfl
      | some u =>
        exfalso
        by_cases hm : c.mu = some a
        · obtain ⟨o', h'⟩ := S.mh a hm
          rw [h] at h'
          cases h'
        · rw [S.eh a u h0 hm] at h
          cases h
  len := S.len
  sl := fun i s e => by
    obtain ⟨v, h1, h2, h3⟩ := S.sl i s e
    refine ⟨v, h1, h2.mono hg fun l ho hv => ?_, h3⟩
    subst hv
    obtain ⟨l', u, e1, e2, e3⟩ := Sl.ow_ref h2 ho
    cases e1
    refine ⟨(hh _ _ e2).trans e2.symm, ?_⟩
    cases h0 : G' l with
    | none => rfl
    | some u' =>
      rcases nw l u' h0 with h | h
      · rw [e3] at h; cases h
      · rw [e2] at h; cases h
  mo := S.mo
  dj := S.dj
theorem same_new {H : Hp} {p : Addr} {o : HO} (h : H p = none) : Same H (upd H p o) := fun b u e => by
  rw [upd_ne (ne_of_none e h)]
  exact e
theorem StOk.free (S : StOk c σ ρ G H) {p : Addr} (h : H p = none) : G p = none := S.gh.free h
theorem StOk.efree (S : StOk c σ ρ G H) {p : Addr} (h : H p = none) : c.E0 p = none := by
  cases h0 : c.E0 p with
  | none => rfl
  | some u =>
    by_cases hm : c.mu = some p
    · obtain ⟨o', h'⟩ := S.mh p hm
      rw [h] at h'
      cases h'
    · rw [S.eh p u h0 hm] at h
      cases h
/-- a new object of the frame -/
theorem StOk.new (S : StOk c σ ρ G H) {p : Addr} {o : HO} (h : H p = none) : StOk c σ ρ (upd G p o) (upd H p o) :=
  S.grow (same_new (S.free h)) (same_new h) (fun b u e => by
    by_cases hb : b = p
    · subst hb
      rw [upd_same] at e ⊢
      exact e
    · rw [upd_ne hb] at e ⊢
      exact S.gh _ _ e) fun b u e => by
    by_cases hb : b = p
    · subst hb; exact .inr h
    · rw [upd_ne hb] at e; exact .inl e
/-- a new object that the frame does not know yet -/
theorem StOk.newH (S : StOk c σ ρ G H) {p : Addr} {o : HO} (h : H p = none) : StOk c σ ρ G (upd H p o) :=
  S.grow (Same.refl _) (same_new h) (S.gh.trans (same_new h)) fun b u e => .inl e
/-- .. and now it knows it -/
theorem StOk.know (S : StOk c σ ρ G H) {p : Addr} {o : HO} (h : H p = some o) (hg : G p = none) (he : c.E0 p = none) (hs : ∀ (i : Nat) s, ρ[i]? = some (some s) → s.isOw = true → σ[i]? ≠ some (some (.ref p))) : StOk c σ ρ (upd G p o) H where
  gg := S.gg.trans (same_new hg)
  gh := fun b u e => by
    by_cases hb : b = p
    · subst hb
      rw [upd_same] at e
      exact h.trans e
    · rw [upd_ne hb] at e
      exact S.gh _ _ e
  eh := S.eh
  mh := S.mh
  nw := fun b u e => by
    by_cases hb : b = p
    · subst hb; exact .inr he
    · rw [upd_ne hb] at e; exact S.nw b u e
  len := S.len
  sl := fun i s e => by
    obtain ⟨v, h1, h2, h3⟩ := S.sl i s e
    refine ⟨v, h1, h2.mono (same_new hg) fun l ho hv => ?_, h3⟩
    subst hv
    obtain ⟨l', u, e1, e2, e3⟩ := Sl.ow_ref h2 ho
    cases e1
    refine ⟨rfl, ?_⟩
    rw [upd_ne (fun hl => hs i s e ho (by rw [← hl]; exact h1))]
    exact e3
  mo := S.mo
  dj := S.dj
end
/-- l is no object of one's own -/
def NotOwn (σ : L2.St) (ρ : Rho) (l : Addr) : Prop := ∀ (i : Nat) s, ρ[i]? = some (some s) → s.isOw = true → σ[i]? ≠ some (some (.ref l))
/-- from state to state, within an expression -/
structure Step (σ : L2.St) (ρ ρ' : Rho) (G H G' H' : Hp) : Prop where
  g : Same G G'
  h : ∀ l u, H l = some u → NotOwn σ ρ l → H' l = some u
  n : ∀ l u, G' l = some u → NotOwn σ ρ l → G l = some u ∨ H l = none
  d : ∀ l, H' l = none → H l = none
  o : ∀ l, NotOwn σ ρ l → NotOwn σ ρ' l
theorem Step.refl {σ : L2.St} {ρ : Rho} {G H : Hp} : Step σ ρ ρ G H G H := ⟨Same.refl _, fun _ _ e _ => e, fun _ _ e _ => .inl e, fun _ e => e, fun _ e => e⟩
theorem Step.trans {σ : L2.St} {ρ ρ1 ρ2 : Rho} {G H G1 H1 G2 H2 : Hp} (a : Step σ ρ ρ1 G H G1 H1) (b : Step σ ρ1 ρ2 G1 H1 G2 H2) : Step σ ρ ρ2 G H G2 H2 where
  g := a.g.trans b.g
  h := fun l u e n => b.h l u (a.h l u e n) (a.o l n)
  n := fun l u e n => by
    rcases b.n l u e (a.o l n) with h | h
    · exact a.n l u h n
    · exact .inr (a.d l h)
  d := fun l e => a.d l (b.d l e)
  o := fun l n => b.o l (a.o l n)
theorem Step.grow {σ : L2.St} {ρ : Rho} {G H G' H' : Hp} (hg : Same G G') (hh : Same H H') (nw : ∀ a o, G' a = some o → G a = some o ∨ H a = none) : Step σ ρ ρ G H G' H' :=
  ⟨hg, fun l u e _ => hh l u e, fun a o e _ => nw a o e, fun l e => hh.free e, fun _ e => e⟩
theorem Step.new {σ : L2.St} {ρ : Rho} {G H : Hp} {p : Addr} {o : HO} (hg : G p = none) (h : H p = none) : Step σ ρ ρ G H (upd G p o) (upd H p o) :=
  .grow (same_new hg) (same_new h) fun a u e => by
    by_cases ha : a = p
    · subst ha; exact .inr h
    · rw [upd_ne ha] at e; exact .inl e
theorem Step.newH {σ : L2.St} {ρ : Rho} {G H : Hp} {p : Addr} {o : HO} (h : H p = none) : Step σ ρ ρ G H G (upd H p o) :=
  .grow (Same.refl _) (same_new h) fun a u e => .inl e
/-- what a reference is: an own list's content too -/
inductive Rv (K : PySem.W.Frag) (G H : Hp) : D → V → Prop
  | is {d : D} {v : V} (h : Is K G d v) : Rv K G H d v
  | ow {l : Addr} {vs : List V} {xs : List D} (h : H l = some (.lst vs)) (a : All K G xs vs) : Rv K G H (.lst xs) (.ref l)
/-- what may be laid into a slot: H0, the heap ahead -/
inductive Ct (c : Cq) (σ : L2.St) (ρ : Rho) (H0 G H : Hp) : Sl → V → Prop
  | sh {d : D} {v : V} (h : Is c.K G d v) : Ct c σ ρ H0 G H (.sh d) v
  | ow {p : Addr} {vs : List V} {xs : List D} (h : H p = some (.lst vs)) (g : G p = none) (e : c.E0 p = none) (n : NotOwn σ ρ p) (f : H0 p = none) (a : All c.K G xs vs) : Ct c σ ρ H0 G H (.ow xs) (.ref p)
  | dk {p : Addr} {vs : List (Key × V)} {kvs : List (Key × D)} (h : H p = some (.dK vs)) (g : G p = none) (e : c.E0 p = none) (n : NotOwn σ ρ p) (f : H0 p = none) (k : vs.map (·.1) = kvs.map (·.1)) (a : All c.K G (kvs.map (·.2)) (vs.map (·.2))) (u : c.mu = none) : Ct c σ ρ H0 G H (.dk kvs) (.ref p)
  | pn {p : Addr} {m : Nat} (h : PenAt c.K G H p m) (g : G p = none) (e : c.E0 p = none) (n : NotOwn σ ρ p) (f : H0 p = none) (u : c.mu = none) : Ct c σ ρ H0 G H (.pn m) (.ref p)
/-! ### judgements over data -/
abbrev WE := Rho → (D → Rho → Prop) → Prop
abbrev WX := Rho → (Sl → Rho → Prop) → Prop
abbrev WT := Rho → (Bool → Rho → Prop) → Prop
abbrev WA := Rho → (List D → Rho → Prop) → Prop
abbrev WG := D → Rho → (Rho → Prop) → Prop
abbrev WGs := List D → Rho → (Rho → Prop) → Prop
structure Out where
  nx : Rho → Prop
  rt : D → Rho → Prop
  bk : Rho → Prop := fun _ => False
  ct : Rho → Prop := fun _ => False
abbrev WS := Rho → Out → Prop
def DE (c : Cq) (t : TE) (w : WE) : Prop := ∀ σ ρ G H (Q : VK) (P : D → Rho → Prop), StOk c σ ρ G H → w ρ P →
  (∀ v d ρ' G' H', P d ρ' → StOk c σ ρ' G' H' → Step σ ρ ρ' G H G' H' → Is c.K G' d v → Q v H') → t σ H Q
def DR (c : Cq) (t : TE) (w : WE) : Prop := ∀ σ ρ G H (Q : VK) (P : D → Rho → Prop), StOk c σ ρ G H → w ρ P →
  (∀ v d ρ' G' H', P d ρ' → StOk c σ ρ' G' H' → Step σ ρ ρ' G H G' H' → Rv c.K G' H' d v → Q v H') → t σ H Q
def DX (c : Cq) (t : TE) (w : WX) : Prop := ∀ σ ρ G H (Q : VK) (P : Sl → Rho → Prop), StOk c σ ρ G H → w ρ P →
  (∀ v s ρ' G' H', P s ρ' → StOk c σ ρ' G' H' → Step σ ρ ρ' G H G' H' → Ct c σ ρ' H G' H' s v → Q v H') → t σ H Q
def DT (c : Cq) (t : TT) (w : WT) : Prop := ∀ σ ρ G H (Q : Bool → Hp → Prop) (P : Bool → Rho → Prop), StOk c σ ρ G H → w ρ P →
  (∀ b ρ' G' H', P b ρ' → StOk c σ ρ' G' H' → Step σ ρ ρ' G H G' H' → Q b H') → t σ H Q
def DA (c : Cq) (t : TA) (w : WA) : Prop := ∀ σ ρ G H (Q : List V → Hp → Prop) (P : List D → Rho → Prop), StOk c σ ρ G H → w ρ P →
  (∀ vs ds ρ' G' H', P ds ρ' → StOk c σ ρ' G' H' → Step σ ρ ρ' G H G' H' → All c.K G' ds vs → Q vs H') → t σ H Q
def DG (c : Cq) (g : TG) (w : WG) : Prop := ∀ σ ρ G H v d (Q : L2.St → Hp → Prop) (P : Rho → Prop), StOk c σ ρ G H → Is c.K G d v → w d ρ P →
  (∀ σ' ρ' G' H', P ρ' → StOk c σ' ρ' G' H' → Same G G' → Q σ' H') → g v σ H Q
def DGs (c : Cq) (g : TGs) (w : WGs) : Prop := ∀ σ ρ G H vs ds (Q : L2.St → Hp → Prop) (P : Rho → Prop), StOk c σ ρ G H → All c.K G ds vs → w ds ρ P →
  (∀ σ' ρ' G' H', P ρ' → StOk c σ' ρ' G' H' → Same G G' → Q σ' H') → g vs σ H Q
def DS (c : Cq) (t : TS) (w : WS) : Prop := ∀ σ ρ G H (D : Ends) (O : Out), StOk c σ ρ G H → w ρ O →
  (∀ σ' ρ' G' H', O.nx ρ' → StOk c σ' ρ' G' H' → Same G G' → D.nx σ' H') →
  (∀ v d σ' ρ' G' H', O.rt d ρ' → StOk c σ' ρ' G' H' → Same G G' → Is c.K G' d v → D.rt v H') →
  (∀ σ' ρ' G' H', O.bk ρ' → StOk c σ' ρ' G' H' → Same G G' → D.bk σ' H') →
  (∀ σ' ρ' G' H', O.ct ρ' → StOk c σ' ρ' G' H' → Same G G' → D.ct σ' H') → t D σ H
abbrev W2 := Rho → (D → D → Rho → Prop) → Prop
def D2 (c : Cq) (ta tb : TE) (w : W2) : Prop := ∀ σ ρ G H (R : V → V → Hp → Prop) (P : D → D → Rho → Prop), StOk c σ ρ G H → w ρ P →
  (∀ x y dx dy ρ' G' H', P dx dy ρ' → StOk c σ ρ' G' H' → Step σ ρ ρ' G H G' H' → Rv c.K G' H' dx x → Rv c.K G' H' dy y → R x y H') → ta σ H fun x H1 => tb σ H1 fun y H2 => R x y H2
/-! ### .. with the syntax -/
structure PDE (X : Cx) (c : Cq) (e : Expr) (t : TE) (w : WE) : Prop where
  p : PE X e t
  d : DE c t w
structure PDR (X : Cx) (c : Cq) (e : Expr) (t : TE) (w : WE) : Prop where
  p : PE X e t
  d : DR c t w
structure PDX (X : Cx) (c : Cq) (e : Expr) (t : TE) (w : WX) : Prop where
  p : PE X e t
  d : DX c t w
structure PD2 (X : Cx) (c : Cq) (a b : Expr) (ta tb : TE) (w : W2) : Prop where
  pa : PE X a ta
  pb : PE X b tb
  d : D2 c ta tb w
structure PDT (X : Cx) (c : Cq) (e : Expr) (t : TT) (w : WT) : Prop where
  p : PT X e t
  d : DT c t w
structure PDW (X : Cx) (c : Cq) (e : Expr) (t : TT) (w : WT) : Prop where
  p : PW X e t
  d : DT c t w
structure PDA (X : Cx) (c : Cq) (es : List Expr) (t : TA) (w : WA) : Prop where
  p : PA X es t
  d : DA c t w
structure PDG (X : Cx) (c : Cq) (e : Expr) (t : TG) (w : WG) : Prop where
  p : PG X e t
  d : DG c t w
structure PDGs (X : Cx) (c : Cq) (es : List Expr) (t : TGs) (w : WGs) : Prop where
  p : PGs X es t
  d : DGs c t w
structure PDS (X : Cx) (c : Cq) (st : Stmt) (t : TS) (w : WS) : Prop where
  p : PS X st t
  d : DS c t w
structure PDSs (X : Cx) (c : Cq) (st : List Stmt) (t : TS) (w : WS) : Prop where
  p : PSs X st t
  d : DS c t w
section
variable {c : Cq} {X : Cx}
theorem Rv.mono {K : PySem.W.Frag} {G H G' H' : Hp} {d : D} {v : V} (h : Rv K G H d v) (g : Same G G') (hh : Same H H') : Rv K G' H' d v := by
  cases h with
  | is h => exact .is (h.mono g)
  | ow h a => exact .ow (hh _ _ h) (a.mono g)
theorem DE.r {t : TE} {w : WE} (h : DE c t w) : DR c t w := fun σ ρ G H Q P S hw k => h σ ρ G H Q P S hw fun v d ρ' G' H' p S' g i => k v d ρ' G' H' p S' g (.is i)
theorem PDE.r {e : Expr} {t : TE} {w : WE} (h : PDE X c e t w) : PDR X c e t w := ⟨h.p, h.d.r⟩
@[simp] def wSh (w : WE) : WX := fun ρ P => w ρ fun d ρ' => P (.sh d) ρ'
theorem PDE.x {e : Expr} {t : TE} {w : WE} (h : PDE X c e t w) : PDX X c e t (wSh w) := ⟨h.p, fun σ ρ G H Q P S hw k => h.d σ ρ G H Q _ S hw fun v d ρ' G' H' p S' g i => k v _ ρ' G' H' p S' g (.sh i)⟩
/-- a new list of one's own becomes known -/
@[simp] def wKn (w : WX) : WE := fun ρ P => w ρ fun s ρ' => match s with
  | .sh d => P d ρ'
  | .ow xs => P (.lst xs) ρ'
  | _ => False
theorem DX.e {t : TE} {w : WX} (h : DX c t w) : DE c t (wKn w) := fun σ ρ G H Q P S hw k => h σ ρ G H Q _ S hw fun v s ρ' G' H' p S' g i => by
  cases i with
  | sh i => exact k v _ ρ' G' H' p S' g i
  | @ow pp vs xs h1 h2 h3 h4 h5 h6 =>
    refine k _ _ ρ' _ H' p (S'.know h1 h2 h3 h4) ⟨g.g.trans (same_new h2), g.h, fun l u e no => ?_, g.d, g.o⟩ (.lst upd_same h6.1 (h6.mono (same_new h2)).2)
    by_cases hl : l = pp
    · rw [hl]; exact .inr h5
    · rw [upd_ne hl] at e
      exact g.n l u e no
  | dk => exact p.elim
  | pn => exact p.elim
theorem PDX.e {e : Expr} {t : TE} {w : WX} (h : PDX X c e t w) : PDE X c e t (wKn w) := ⟨h.p, h.d.e⟩
/-! ### names and constants -/
@[simp] def wVar (i : Nat) : WE := fun ρ P => match Rho.g ρ i with
  | some (.sh d) => P d ρ
  | _ => False
/-- a list of one's own, read -/
@[simp] def wOwn (i : Nat) : WE := fun ρ P => match Rho.g ρ i with
  | some (.ow xs) => P (.lst xs) ρ
  | _ => False
@[simp] def wC (d : D) : WE := fun ρ P => P d ρ
theorem wVar_of {i : Nat} {ρ : Rho} {P : D → Rho → Prop} (h : wVar i ρ P) : ∃ d, ρ[i]? = some (some (.sh d)) ∧ P d ρ := by
  unfold wVar at h
  cases e : Rho.g ρ i with
  | none => rw [e] at h; exact h.elim
  | some s =>
    rw [e] at h
    cases s with
    | sh d => exact ⟨d, Rho.g_eq ρ i e, h⟩
    | ow xs => exact h.elim
    | pn n => exact h.elim
    | dk kvs => exact h.elim
    | me C nm xs => exact h.elim
theorem wOwn_of {i : Nat} {ρ : Rho} {P : D → Rho → Prop} (h : wOwn i ρ P) : ∃ xs, ρ[i]? = some (some (.ow xs)) ∧ P (.lst xs) ρ := by
  unfold wOwn at h
  cases e : Rho.g ρ i with
  | none => rw [e] at h; exact h.elim
  | some s =>
    rw [e] at h
    cases s with
    | ow xs => exact ⟨xs, Rho.g_eq ρ i e, h⟩
    | sh d => exact h.elim
    | pn n => exact h.elim
    | dk kvs => exact h.elim
    | me C nm xs => exact h.elim
theorem de_var {i : Nat} : DE c (tVar i) (wVar i) := fun σ ρ G H Q P S hw k => by
  obtain ⟨d, e, p⟩ := wVar_of hw
  obtain ⟨v, h1, h2, _⟩ := S.sl i _ e
  exact ⟨v, h1, k v d ρ G H p S .refl h2⟩
theorem own_at {σ : L2.St} {ρ : Rho} {G H : Hp} {i : Nat} {xs : List D} (S : StOk c σ ρ G H) (e : ρ[i]? = some (some (.ow xs))) : ∃ (l : Addr) (vs : List V), σ[i]? = some (some (.ref l)) ∧ H l = some (.lst vs) ∧ G l = none ∧ All c.K G xs vs ∧ c.E0 l = none := by
  obtain ⟨v, h1, ⟨l, vs, rfl, h2, h3, h4⟩, h5⟩ := S.sl i _ e
  refine ⟨l, vs, h1, h2, h3, h4, ?_⟩
  rcases h5 l rfl rfl with z | z
  · exact z
  · cases z.1
theorem dr_own {i : Nat} : DR c (tVar i) (wOwn i) := fun σ ρ G H Q P S hw k => by
  obtain ⟨xs, e, p⟩ := wOwn_of hw
  obtain ⟨l, vs, h1, h2, h3, h4, _⟩ := own_at S e
  exact ⟨_, h1, k _ _ ρ G H p S .refl (.ow h2 h4)⟩
theorem de_c {v : V} {d : D} (h : ∀ K H, Is K H d v) : DE c (tC v) (wC d) := fun σ ρ G H Q P S hw k => k v d ρ G H hw S .refl (h _ _)
theorem pd_var (i : Nat) {x : Str} {pos : Pos} (hN : X.N[i]? = some x := by rfl) (hv : Vis X.env.scope x := by first | exact Or.inl rfl | exact Or.inr (Or.inl rfl) | exact Or.inr (Or.inr rfl)) (hd : (x == ("__debug__" : Str)) = false := by decide)
    (hcd : (x == ("__classdict__" : Str)) = false := by decide) : PDE X c (.Name x pos) (tVar i) (wVar i) := ⟨pv i hN hv hd hcd, de_var⟩
theorem pd_own (i : Nat) {x : Str} {pos : Pos} (hN : X.N[i]? = some x := by rfl) (hv : Vis X.env.scope x := by first | exact Or.inl rfl | exact Or.inr (Or.inl rfl) | exact Or.inr (Or.inr rfl)) (hd : (x == ("__debug__" : Str)) = false := by decide)
    (hcd : (x == ("__classdict__" : Str)) = false := by decide) : PDR X c (.Name x pos) (tVar i) (wOwn i) := ⟨pv i hN hv hd hcd, dr_own⟩
theorem pd_int {i j pos} : PDE X c (.Constant (.int i) j pos) (tC (.int i)) (wC (.int i)) := ⟨pe_int, de_c fun _ _ => .int i⟩
theorem pd_bl {b j pos} : PDE X c (.Constant (.bool b) j pos) (tC (.bl b)) (wC (.bl b)) := ⟨pe_bl, de_c fun _ _ => .bl b⟩
theorem pd_non {j pos} : PDE X c (.Constant .none j pos) (tC .non) (wC .non) := ⟨pe_non, de_c fun _ _ => .non⟩
theorem pd_str {x j pos} : PDE X c (.Constant (.str x) j pos) (tC (.str x)) (wC (.str x)) := ⟨pe_str, de_c fun _ _ => .str x⟩
/-- a module's constant -/
theorem pd_glob {x : Str} {v : V} {d : D} {pos : Pos} (hg : Gl X x) (h : ∃ u, X.mg x = some u ∧ RelV v u) (hd : ∀ K H, Is K H d v) (hdb : (x == ("__debug__" : Str)) = false := by decide) : PDE X c (.Name x pos) (tC v) (wC d) := by
  obtain ⟨u, h1, h2⟩ := h
  exact ⟨pe_glob hg h1 h2 hdb, de_c hd⟩
/-! ### two values -/
@[simp] def w2ee (wa wb : WE) : W2 := fun ρ P => wa ρ fun x ρ1 => wb ρ1 fun y ρ2 => P x y ρ2
@[simp] def w2oe (i : Nat) (wb : WE) : W2 := fun ρ P => wOwn i ρ fun _ _ => wb ρ fun y ρ2 => wOwn i ρ2 fun x ρ3 => P x y ρ3
variable {a b e1 e2 e3 : Expr} {ta tb tc : TE} {wa wb wc : WE} {w2 : W2} {pos : Pos} {tt uu : TT} {wt wu : WT}
theorem pd2_ee (ha : PDE X c a ta wa) (hb : PDR X c b tb wb) : PD2 X c a b ta tb (w2ee wa wb) := ⟨ha.p, hb.p, fun σ ρ G H R P S hw k =>
  ha.d σ ρ G H _ _ S hw fun x dx ρ1 G1 H1 p1 S1 g1 i1 => hb.d σ ρ1 G1 H1 _ _ S1 p1 fun y dy ρ2 G2 H2 p2 S2 g2 i2 => k x y dx dy ρ2 G2 H2 p2 S2 (g1.trans g2) (.is (i1.mono g2.g)) i2⟩
/-- the first one a list of one's own, as it is behind the second one -/
theorem pd2_oe (i : Nat) {x : Str} {px : Pos} (hb : PDE X c b tb wb) (hN : X.N[i]? = some x := by rfl) (hv : Vis X.env.scope x := by first | exact Or.inl rfl | exact Or.inr (Or.inl rfl) | exact Or.inr (Or.inr rfl)) (hd : (x == ("__debug__" : Str)) = false := by decide)
    (hcd : (x == ("__classdict__" : Str)) = false := by decide) : PD2 X c (.Name x px) b (tVar i) tb (w2oe i wb) := ⟨pv i hN hv hd hcd, hb.p, fun σ ρ G H R P S hw k => by
  obtain ⟨xs, e, p⟩ := wOwn_of hw
  obtain ⟨l, vs, h1, _⟩ := own_at S e
  refine ⟨_, h1, hb.d σ ρ G H _ _ S p fun y dy ρ2 G2 H2 p2 S2 g2 i2 => ?_⟩
  obtain ⟨xs', e', p'⟩ := wOwn_of p2
  obtain ⟨l', vs', h1', h2, h3, h4, _⟩ := own_at S2 e'
  rw [h1] at h1'
  cases h1'
  exact k _ y _ dy ρ2 G2 H2 p' S2 g2 (.ow h2 h4) (.is i2)⟩
/-! ### operators -/
def OpD (c : Cq) (r : R2) (k : D → D → (D → Prop) → Prop) : Prop := ∀ G H (Q : VK) (P : D → Prop) x y dx dy, Same G H → Rv c.K G H dx x → Rv c.K G H dy y → k dx dy P →
  (∀ v d, P d → Is c.K G d v → Q v H) → (∀ p o d, H p = none → P d → Is c.K (upd G p o) d (.ref p) → Q (.ref p) (upd H p o)) → r x y H Q
@[simp] def wOp (w : W2) (k : D → D → (D → Prop) → Prop) : WE := fun ρ P => w ρ fun x y ρ2 => k x y fun z => P z ρ2
theorem de_op {r : R2} {k : D → D → (D → Prop) → Prop} (hd : OpD c r k) (h : D2 c ta tb w2) : DE c (tOp r ta tb) (wOp w2 k) := fun σ ρ G H Q P S hw q =>
  h σ ρ G H _ _ S hw fun x y dx dy ρ' G' H' p S' g ix iy => hd G' H' Q _ x y dx dy S'.gh ix iy p (fun v d p' i => q v d ρ' G' H' p' S' g i)
    fun a o d ha p' i => q _ d ρ' _ _ p' (S'.new ha) (g.trans (.new (S'.free ha) ha)) i
theorem pd_op {op : Operator} {r : R2} {k : D → D → (D → Prop) → Prop} (ho : OpR X (binaryOp op) r) (hd : OpD c r k) (h : PD2 X c a b ta tb w2) : PDE X c (.BinOp a op b pos) (tOp r ta tb) (wOp w2 k) := ⟨pe_op ho h.pa h.pb, de_op hd h.d⟩
@[simp] def kI (C : Int → Int → Prop) (g : Int → Int → Int) : D → D → (D → Prop) → Prop
  | .int i, .int j, P => C i j ∧ P (.int (g i j))
  | _, _, _ => False
theorem Rv.int {K : PySem.W.Frag} {G H : Hp} {i : Int} {v : V} (h : Rv K G H (.int i) v) : v = .int i := by
  cases h with
  | is h => cases h; rfl
theorem Rv.str {K : PySem.W.Frag} {G H : Hp} {i : Str} {v : V} (h : Rv K G H (.str i) v) : v = .str i := by
  cases h with
  | is h => cases h; rfl
theorem Rv.lst {K : PySem.W.Frag} {G H : Hp} {xs : List D} {v : V} (g : Same G H) (h : Rv K G H (.lst xs) v) : ∃ l vs, v = .ref l ∧ H l = some (.lst vs) ∧ All K G xs vs := by
  cases h with
  | is h => cases h with | lst h l k => exact ⟨_, _, rfl, g _ _ h, l, k⟩
  | ow h a => exact ⟨_, _, rfl, h, a⟩
theorem kI_of {C : Int → Int → Prop} {g : Int → Int → Int} {x y : D} {P : D → Prop} (h : kI C g x y P) : ∃ i j, x = .int i ∧ y = .int j ∧ C i j ∧ P (.int (g i j)) := by
  cases x <;> cases y <;> first | exact ⟨_, _, rfl, rfl, h⟩ | exact h.elim
theorem opd_I {C : Int → Int → Prop} {g : Int → Int → Int} : OpD c (rI C fun i j => .int (g i j)) (kI C g) := fun G H Q P x y dx dy _ hx hy h q _ => by
  obtain ⟨i, j, rfl, rfl, hc, p⟩ := kI_of h
  exact ⟨i, j, hx.int, hy.int, hc, q _ _ p (.int _)⟩
@[simp] def kI0 (g : Int → Int → Int) : D → D → (D → Prop) → Prop
  | .int i, .int j, P => P (.int (g i j))
  | _, _, _ => False
theorem opd_I0 {g : Int → Int → Int} : OpD c (rI0 fun i j => .int (g i j)) (kI0 g) := fun G H Q P x y dx dy _ hx hy h q _ => by
  cases dx <;> cases dy <;> first | exact ⟨_, _, hx.int, hy.int, q _ _ h (.int _)⟩ | exact h.elim
@[simp] def kB (g : Int → Int → Bool) : D → D → (D → Prop) → Prop
  | .int i, .int j, P => P (.bl (g i j))
  | _, _, _ => False
theorem opd_B {g : Int → Int → Bool} : OpD c (rI0 fun i j => .bl (g i j)) (kB g) := fun G H Q P x y dx dy _ hx hy h q _ => by
  cases dx <;> cases dy <;> first | exact ⟨_, _, hx.int, hy.int, q _ _ h (.bl _)⟩ | exact h.elim
/-- a + b: ints, texts, lists -/
def rAddA : R2 := fun x y H Q => (rI0 fun i j => .int (i + j)) x y H Q ∨ (fun x y H Q => ∃ i j, x = V.str i ∧ y = V.str j ∧ i.length + j.length ≤ sizeLine ∧ Q (.str (i ++ j)) H) x y H Q ∨ rCat x y H Q
theorem op_addA : OpR X (binaryOp .Add) rAddA := OpR.or op_add (OpR.or op_add_str op_cat)
@[simp] def kAdd : D → D → (D → Prop) → Prop
  | .int i, .int j, P => P (.int (i + j))
  | .str i, .str j, P => i.length + j.length ≤ sizeLine ∧ P (.str (i ++ j))
  | .lst i, .lst j, P => i.length + j.length ≤ sizeLine ∧ P (.lst (i ++ j))
  | _, _, _ => False
theorem opd_add : OpD c rAddA kAdd := fun G H Q P x y dx dy g hx hy h q qn => by
  cases dx <;> cases dy <;> first | exact h.elim | skip
  · exact .inl ⟨_, _, hx.int, hy.int, q _ _ h (.int _)⟩
  · exact .inr (.inl ⟨_, _, hx.str, hy.str, h.1, q _ _ h.2 (.str _)⟩)
  · obtain ⟨l, vs, rfl, h1, a1⟩ := hx.lst g
    obtain ⟨m, us, rfl, h2, a2⟩ := hy.lst g
    refine .inr (.inr ⟨l, m, vs, us, rfl, rfl, h1, h2, by rw [a1.1, a2.1]; exact h.1, fun p hp => qn p _ _ hp h.2 (.lst upd_same (a1.append a2).1 ((a1.append a2).mono (same_new (g.free hp))).2)⟩)
abbrev kSub := kI0 fun i j => i - j
def CMulA (i j : Int) : Prop := CMul i j ∨ CMulW i j
def rMulA : R2 := fun x y H Q => (rI CMul fun i j => .int (i * j)) x y H Q ∨ (rI CMulW fun i j => .int (i * j)) x y H Q
theorem op_mulA : OpR X (binaryOp .Mult) rMulA := OpR.or op_mul op_mulW
@[simp] def kMul : D → D → (D → Prop) → Prop
  | .int i, .int j, P => CMulA i j ∧ P (.int (i * j))
  | _, _, _ => False
theorem opd_mul : OpD c rMulA kMul := fun G H Q P x y dx dy g hx hy h q qn => by
  cases dx <;> cases dy <;> first | exact h.elim | skip
  rcases h with ⟨h | h, p⟩
  · exact .inl ⟨_, _, hx.int, hy.int, h, q _ _ p (.int _)⟩
  · exact .inr ⟨_, _, hx.int, hy.int, h, q _ _ p (.int _)⟩
theorem pd_add (h : PD2 X c a b ta tb w2) : PDE X c (.BinOp a .Add b pos) (tOp rAddA ta tb) (wOp w2 kAdd) := pd_op op_addA opd_add h
theorem pd_sub (h : PD2 X c a b ta tb w2) : PDE X c (.BinOp a .Sub b pos) (tOp (rI0 fun i j => .int (i - j)) ta tb) (wOp w2 kSub) := pd_op op_sub opd_I0 h
theorem pd_mul (h : PD2 X c a b ta tb w2) : PDE X c (.BinOp a .Mult b pos) (tOp rMulA ta tb) (wOp w2 kMul) := pd_op op_mulA opd_mul h
abbrev kMod := kI (fun _ j => 0 < j) fun i j => i % j
abbrev kDiv := kI CDivW fun i j => i / j
theorem pd_mod (h : PD2 X c a b ta tb w2) : PDE X c (.BinOp a .Mod b pos) (tOp (rI (fun _ j => 0 < j) fun i j => .int (i % j)) ta tb) (wOp w2 kMod) := pd_op op_mod opd_I h
theorem pd_div (h : PD2 X c a b ta tb w2) : PDE X c (.BinOp a .FloorDiv b pos) (tOp (rI CDivW fun i j => .int (i / j)) ta tb) (wOp w2 kDiv) := pd_op op_fdivW opd_I h
@[simp] def kNeg : D → (D → Prop) → Prop
  | .int i, P => P (.int (-i))
  | _, _ => False
@[simp] def wNeg (w : WE) : WE := fun ρ P => w ρ fun x ρ1 => kNeg x fun z => P z ρ1
theorem pd_neg (h : PDE X c a ta wa) : PDE X c (.UnaryOp .USub a pos) (tUn (rU fun i => .int (-i)) ta) (wNeg wa) := ⟨pe_un un_neg h.p, fun σ ρ G H Q P S hw k => h.d σ ρ G H _ _ S hw fun v d ρ' G' H' p S' g i => by
  cases d <;> first | exact p.elim | skip
  cases i
  exact ⟨_, rfl, k _ _ ρ' G' H' p S' g (.int _)⟩⟩
/-! ### comparisons -/
abbrev kLt := kB fun i j => decide (i < j)
abbrev kLe := kB fun i j => decide (i ≤ j)
abbrev kGt := kB fun i j => decide (j < i)
abbrev kGe := kB fun i j => decide (j ≤ i)
theorem pd_cmp {op : CmpOp} {r : R2} {k : D → D → (D → Prop) → Prop} (ho : OpR X (compareOp op) r) (hd : OpD c r k) (h : PD2 X c a b ta tb w2) (hm : behindInMarks op b = false) : PDE X c (.Compare a [op] [b] pos) (tOp r ta tb) (wOp w2 k) :=
  ⟨pe_cmpR ho h.pa h.pb hm, de_op hd h.d⟩
@[simp] def wTst (w : WE) : WT := fun ρ P => w ρ fun d ρ' => match d with
  | .bl b => P b ρ'
  | _ => False
theorem dt_test {t : TE} {w : WE} (h : DE c t w) : DT c (tTest t) (wTst w) := fun σ ρ G H Q P S hw k => h σ ρ G H _ _ S hw fun v d ρ' G' H' p S' g i => by
  cases d <;> first | exact p.elim | skip
  cases i
  exact ⟨_, rfl, k _ ρ' G' H' p S' g⟩
theorem dt_B {t : TE} {w : WE} (h : DE c t w) : DT c (tB t) (wTst w) := fun σ ρ G H Q P S hw k => h σ ρ G H _ _ S hw fun v d ρ' G' H' p S' g i => by
  cases d <;> first | exact p.elim | skip
  cases i
  exact ⟨_, rfl, k _ ρ' G' H' p S' g⟩
theorem pdt_cmp {op : CmpOp} {r : R2} {k : D → D → (D → Prop) → Prop} (ho : OpR X (compareOp op) r) (hd : OpD c r k) (h : PD2 X c a b ta tb w2) (hm : behindInMarks op b = false) : PDT X c (.Compare a [op] [b] pos) (tTest (tOp r ta tb)) (wTst (wOp w2 k)) :=
  ⟨pt_cmpR ho h.pa h.pb hm, dt_test (de_op hd h.d)⟩
/-- a test by a value that is a bool -/
theorem pdt_val {e : Expr} {t : TE} {w : WE} (h : PDE X c e t w) (he : ∀ whole, isTrue e X.env whole = (do let v ← whole; standAt e.pos; holding [v] (truthy v)) := by intro _; rfl) : PDT X c e (tB t) (wTst w) := ⟨pt_val h.p he, dt_B h.d⟩
@[simp] def wChain (p q : Int → Int → Bool) (wa wb wc : WE) : WE := fun ρ P => wa ρ fun x ρ1 => wb ρ1 fun y ρ2 => match x, y with
  | .int i, .int j => (p i j = true → wc ρ2 fun z ρ3 => match z with
      | .int k => P (.bl (q j k)) ρ3
      | _ => False) ∧ (p i j = false → P (.bl false) ρ2)
  | _, _ => False
theorem de_chain {p q : Int → Int → Bool} (ha : DE c ta wa) (hb : DE c tb wb) (hc : DE c tc wc) : DE c (tChain (rI0 fun i j => .bl (p i j)) (rI0 fun i j => .bl (q i j)) ta tb tc) (wChain p q wa wb wc) := fun σ ρ G H Q P S hw k =>
  ha σ ρ G H _ _ S hw fun x dx ρ1 G1 H1 p1 S1 g1 i1 => hb σ ρ1 G1 H1 _ _ S1 p1 fun y dy ρ2 G2 H2 p2 S2 g2 i2 => by
    cases dx <;> cases dy <;> first | exact p2.elim | skip
    cases i1; cases i2
    rename_i i j
    refine ⟨i, j, rfl, rfl, _, rfl, ?_⟩
    cases hpq : p i j with
    | true =>
      rw [if_pos rfl]
      exact hc σ ρ2 G2 H2 _ _ S2 (p2.1 hpq) fun z dz ρ3 G3 H3 p3 S3 g3 i3 => by
        cases dz <;> first | exact p3.elim | skip
        cases i3
        exact ⟨j, _, rfl, rfl, k _ _ ρ3 G3 H3 p3 S3 ((g1.trans g2).trans g3) (.bl _)⟩
    | false =>
      rw [if_neg Bool.false_ne_true]
      exact k _ _ ρ2 G2 H2 (p2.2 hpq) S2 (g1.trans g2) (.bl _)
theorem pd_chain {op op' : CmpOp} {p q : Int → Int → Bool} (ho : OpR X (compareOp op) (rI0 fun i j => .bl (p i j))) (ho' : OpR X (compareOp op') (rI0 fun i j => .bl (q i j))) (ha : PDE X c e1 ta wa) (hb : PDE X c e2 tb wb) (hc : PDE X c e3 tc wc)
    (hm : lastMarks [op, op'] [e2, e3] = false := by with_unfolding_all rfl) : PDE X c (.Compare e1 [op, op'] [e2, e3] pos) (tChain (rI0 fun i j => .bl (p i j)) (rI0 fun i j => .bl (q i j)) ta tb tc) (wChain p q wa wb wc) := ⟨pe_chain ho ho' ha.p hb.p hc.p hm, de_chain ha.d hb.d hc.d⟩
theorem pdt_chain {op op' : CmpOp} {p q : Int → Int → Bool} (ho : OpR X (compareOp op) (rI0 fun i j => .bl (p i j))) (ho' : OpR X (compareOp op') (rI0 fun i j => .bl (q i j))) (ha : PDE X c e1 ta wa) (hb : PDE X c e2 tb wb) (hc : PDE X c e3 tc wc)
    (hm : lastMarks [op, op'] [e2, e3] = false := by with_unfolding_all rfl) : PDT X c (.Compare e1 [op, op'] [e2, e3] pos) (tTest (tChain (rI0 fun i j => .bl (p i j)) (rI0 fun i j => .bl (q i j)) ta tb tc)) (wTst (wChain p q wa wb wc)) := ⟨pt_chain ho ho' ha.p hb.p hc.p hm, dt_test (de_chain ha.d hb.d hc.d)⟩
/-- is None -/
@[simp] def D.isN : D → Bool
  | .non => true
  | _ => false
theorem Is.isN {K : PySem.W.Frag} {H : Hp} {d : D} {v : V} (h : Is K H d v) : decide (v = .non) = d.isN := by
  cases h <;> rfl
@[simp] def wIsN (w : WE) : WE := fun ρ P => w ρ fun x ρ1 => P (.bl x.isN) ρ1
@[simp] def wNoN (w : WE) : WE := fun ρ P => w ρ fun x ρ1 => P (.bl (!x.isN)) ρ1
theorem de_isN (h : DE c ta wa) : DE c (tIsN ta) (wIsN wa) := fun σ ρ G H Q P S hw k => h σ ρ G H _ _ S hw fun v d ρ' G' H' p S' g i => by
  show Q (.bl (decide (v = .non))) H'
  rw [i.isN]
  exact k _ _ ρ' G' H' p S' g (.bl _)
theorem de_noN (h : DE c ta wa) : DE c (tNotN ta) (wNoN wa) := fun σ ρ G H Q P S hw k => h σ ρ G H _ _ S hw fun v d ρ' G' H' p S' g i => by
  show Q (.bl (!decide (v = .non))) H'
  rw [i.isN]
  exact k _ _ ρ' G' H' p S' g (.bl _)
theorem pd_isN {j pos'} (h : PDE X c a ta wa) : PDE X c (.Compare a [.Is] [.Constant .none j pos'] pos) (tIsN ta) (wIsN wa) := ⟨pe_cmp (pc_isN h.p), de_isN h.d⟩
theorem pd_noN {j pos'} (h : PDE X c a ta wa) : PDE X c (.Compare a [.IsNot] [.Constant .none j pos'] pos) (tNotN ta) (wNoN wa) := ⟨pe_cmp (pc_notN h.p), de_noN h.d⟩
theorem pdt_isN {j pos'} (h : PDE X c a ta wa) : PDT X c (.Compare a [.Is] [.Constant .none j pos'] pos) (tB (tIsN ta)) (wTst (wIsN wa)) := ⟨pt_cmp (pc_isN h.p), dt_B (de_isN h.d)⟩
theorem pdt_noN {j pos'} (h : PDE X c a ta wa) : PDT X c (.Compare a [.IsNot] [.Constant .none j pos'] pos) (tB (tNotN ta)) (wTst (wNoN wa)) := ⟨pt_cmp (pc_notN h.p), dt_B (de_noN h.d)⟩
/-! ### and, or, not, if -/
@[simp] def wAndT (wt wu : WT) : WT := fun ρ P => wt ρ fun b ρ1 => (b = true → wu ρ1 P) ∧ (b = false → P false ρ1)
@[simp] def wOrT (wt wu : WT) : WT := fun ρ P => wt ρ fun b ρ1 => (b = true → P true ρ1) ∧ (b = false → wu ρ1 P)
@[simp] def wNotT (wt : WT) : WT := fun ρ P => wt ρ fun b ρ1 => P (!b) ρ1
variable {rest : List Expr}
theorem pdw_and1 (h : PDT X c a tt wt) : PDW X c (.BoolOp .And [a] pos) tt wt := ⟨pw_and1 h.p, h.d⟩
theorem pdw_or1 (h : PDT X c a tt wt) : PDW X c (.BoolOp .Or [a] pos) tt wt := ⟨pw_or1 h.p, h.d⟩
theorem pdw_and (h : PDT X c a tt wt) (h' : PDW X c (.BoolOp .And (b :: rest) pos) uu wu) : PDW X c (.BoolOp .And (a :: b :: rest) pos) (tAnd tt uu) (wAndT wt wu) := ⟨pw_and h.p h'.p, fun σ ρ G H Q P S hw k => h.d σ ρ G H _ _ S hw fun x ρ1 G1 H1 p1 S1 g1 => by
  cases x with
  | true =>
    rw [if_pos rfl]
    exact h'.d σ ρ1 G1 H1 _ _ S1 (p1.1 rfl) fun y ρ2 G2 H2 p2 S2 g2 => k y ρ2 G2 H2 p2 S2 (g1.trans g2)
  | false =>
    rw [if_neg Bool.false_ne_true]
    exact k _ ρ1 G1 H1 (p1.2 rfl) S1 g1⟩
theorem pdw_or (h : PDT X c a tt wt) (h' : PDW X c (.BoolOp .Or (b :: rest) pos) uu wu) : PDW X c (.BoolOp .Or (a :: b :: rest) pos) (tOr tt uu) (wOrT wt wu) := ⟨pw_or h.p h'.p, fun σ ρ G H Q P S hw k => h.d σ ρ G H _ _ S hw fun x ρ1 G1 H1 p1 S1 g1 => by
  cases x with
  | false =>
    rw [if_neg Bool.false_ne_true]
    exact h'.d σ ρ1 G1 H1 _ _ S1 (p1.2 rfl) fun y ρ2 G2 H2 p2 S2 g2 => k y ρ2 G2 H2 p2 S2 (g1.trans g2)
  | true =>
    rw [if_pos rfl]
    exact k _ ρ1 G1 H1 (p1.1 rfl) S1 g1⟩
theorem PDW.pt (h : PDW X c a tt wt) : PDT X c a tt wt := ⟨h.p.pt, h.d⟩
theorem pdt_not (h : PDT X c a tt wt) : PDT X c (.UnaryOp .Not a pos) (tNot tt) (wNotT wt) := ⟨pt_not h.p, fun σ ρ G H Q P S hw k => h.d σ ρ G H _ _ S hw fun x ρ1 G1 H1 p1 S1 g1 => k _ ρ1 G1 H1 p1 S1 g1⟩
/-- bools as values -/
@[simp] def wAndV (wa wb : WE) : WE := fun ρ P => wTst wa ρ fun b ρ1 => (b = true → wb ρ1 P) ∧ (b = false → P (.bl false) ρ1)
@[simp] def wOrV (wa wb : WE) : WE := fun ρ P => wTst wa ρ fun b ρ1 => (b = true → P (.bl true) ρ1) ∧ (b = false → wb ρ1 P)
@[simp] def wNotV (wa : WE) : WE := fun ρ P => wTst wa ρ fun b ρ1 => P (.bl (!b)) ρ1
theorem pd_one {op} (h : PDE X c a ta wa) : PDE X c (.BoolOp op [a] pos) ta wa := ⟨pe_one h.p, h.d⟩
theorem pd_and (h : PDE X c a ta wa) (h' : PDE X c (.BoolOp .And (b :: rest) pos) tb wb) : PDE X c (.BoolOp .And (a :: b :: rest) pos) (tAndV ta tb) (wAndV wa wb) := ⟨pe_and h.p h'.p, fun σ ρ G H Q P S hw k => h.d σ ρ G H _ _ S hw fun v d ρ1 G1 H1 p1 S1 g1 i1 => by
  cases d <;> first | exact p1.elim | skip
  cases i1
  rename_i x
  refine ⟨x, rfl, ?_⟩
  cases x with
  | true =>
    rw [if_pos rfl]
    exact h'.d σ ρ1 G1 H1 _ _ S1 (p1.1 rfl) fun v2 d2 ρ2 G2 H2 p2 S2 g2 i2 => k v2 d2 ρ2 G2 H2 p2 S2 (g1.trans g2) i2
  | false =>
    rw [if_neg Bool.false_ne_true]
    exact k _ _ ρ1 G1 H1 (p1.2 rfl) S1 g1 (.bl _)⟩
theorem pd_or (h : PDE X c a ta wa) (h' : PDE X c (.BoolOp .Or (b :: rest) pos) tb wb) : PDE X c (.BoolOp .Or (a :: b :: rest) pos) (tOrV ta tb) (wOrV wa wb) := ⟨pe_or h.p h'.p, fun σ ρ G H Q P S hw k => h.d σ ρ G H _ _ S hw fun v d ρ1 G1 H1 p1 S1 g1 i1 => by
  cases d <;> first | exact p1.elim | skip
  cases i1
  rename_i x
  refine ⟨x, rfl, ?_⟩
  cases x with
  | false =>
    rw [if_neg Bool.false_ne_true]
    exact h'.d σ ρ1 G1 H1 _ _ S1 (p1.2 rfl) fun v2 d2 ρ2 G2 H2 p2 S2 g2 i2 => k v2 d2 ρ2 G2 H2 p2 S2 (g1.trans g2) i2
  | true =>
    rw [if_pos rfl]
    exact k _ _ ρ1 G1 H1 (p1.1 rfl) S1 g1 (.bl _)⟩
theorem pd_not (h : PDE X c a ta wa) : PDE X c (.UnaryOp .Not a pos) (tNotV ta) (wNotV wa) := ⟨pe_not h.p, fun σ ρ G H Q P S hw k => h.d σ ρ G H _ _ S hw fun v d ρ1 G1 H1 p1 S1 g1 i1 => by
  cases d <;> first | exact p1.elim | skip
  cases i1
  exact ⟨_, rfl, k _ _ ρ1 G1 H1 p1 S1 g1 (.bl _)⟩⟩
@[simp] def wIfE (wt : WT) (wa wb : WE) : WE := fun ρ P => wt ρ fun b ρ1 => (b = true → wa ρ1 P) ∧ (b = false → wb ρ1 P)
theorem pd_if {q : Expr} (h : PDT X c q tt wt) (ha : PDE X c a ta wa) (hb : PDE X c b tb wb) : PDE X c (.IfExp q a b pos) (tIf tt ta tb) (wIfE wt wa wb) := ⟨pe_ifExp h.p ha.p hb.p, fun σ ρ G H Q P S hw k => h.d σ ρ G H _ _ S hw fun x ρ1 G1 H1 p1 S1 g1 => by
  cases x with
  | true =>
    rw [if_pos rfl]
    exact ha.d σ ρ1 G1 H1 _ _ S1 (p1.1 rfl) fun v2 d2 ρ2 G2 H2 p2 S2 g2 i2 => k v2 d2 ρ2 G2 H2 p2 S2 (g1.trans g2) i2
  | false =>
    rw [if_neg Bool.false_ne_true]
    exact hb.d σ ρ1 G1 H1 _ _ S1 (p1.2 rfl) fun v2 d2 ρ2 G2 H2 p2 S2 g2 i2 => k v2 d2 ρ2 G2 H2 p2 S2 (g1.trans g2) i2⟩
/-! ### arguments, displays -/
@[simp] def waNil : WA := fun ρ P => P [] ρ
@[simp] def waCons (w : WE) (ws : WA) : WA := fun ρ P => w ρ fun d ρ1 => ws ρ1 fun ds ρ2 => P (d :: ds) ρ2
variable {ts : TA} {ws : WA} {es : List Expr}
theorem pda_nil : PDA X c [] tNil waNil := ⟨pa_nil, fun σ ρ G H Q P S hw k => k [] [] ρ G H hw S .refl .nil⟩
theorem pda_cons (ha : PDE X c a ta wa) (hr : PDA X c es ts ws) (hs : starEach (a :: es) X.env = (false, eval a X.env) :: starEach es X.env := by rfl) : PDA X c (a :: es) (tCons ta ts) (waCons wa ws) := ⟨pa_cons ha.p hr.p hs, fun σ ρ G H Q P S hw k =>
  ha.d σ ρ G H _ _ S hw fun v d ρ1 G1 H1 p1 S1 g1 i1 => hr.d σ ρ1 G1 H1 _ _ S1 p1 fun vs ds ρ2 G2 H2 p2 S2 g2 i2 => k _ _ ρ2 G2 H2 p2 S2 (g1.trans g2) (.cons (i1.mono g2.g) i2)⟩
@[simp] def wTup (ws : WA) : WE := fun ρ P => ws ρ fun ds ρ1 => ds.length ≤ 1000 ∧ P (.tup ds) ρ1
theorem le_line {n : Nat} (h : n ≤ 1000) : n ≤ sizeLine := Nat.le_of_lt (small1000 h)
theorem pd_tup {x1} (h : PDA X c es ts ws) : PDE X c (.Tuple es x1 pos) (tTup ts) (wTup ws) := ⟨pe_tup h.p, fun σ ρ G H Q P S hw k => h.d σ ρ G H _ _ S hw fun vs ds ρ1 G1 H1 p1 S1 g1 i1 =>
  ⟨by rw [i1.1]; exact le_line p1.1, fun p hp => k _ _ ρ1 _ _ p1.2 (S1.new hp) (g1.trans (.new (S1.free hp) hp)) (.tup (.of upd_same) i1.1 (i1.mono (same_new (S1.free hp))).2)⟩⟩
/-- a list of one's own -/
@[simp] def wLstO (ws : WA) : WX := fun ρ P => ws ρ fun ds ρ1 => ds.length ≤ 1000 ∧ P (.ow ds) ρ1
theorem fresh_notOwn {σ : L2.St} {ρ : Rho} {G H : Hp} {p : Addr} (S : StOk c σ ρ G H) (hp : H p = none) : NotOwn σ ρ p := fun i s e ho hs => by
  obtain ⟨v, h1, h2, _⟩ := S.sl i s e
  obtain ⟨l, u, rfl, h3, _⟩ := Sl.ow_ref h2 ho
  rw [hs] at h1
  cases h1
  rw [hp] at h3
  cases h3
/-- a new list at p that the frame does not know -/
theorem ct_new {σ : L2.St} {ρ : Rho} {G H H0 : Hp} {p : Addr} {vs : List V} {xs : List D} (S : StOk c σ ρ G H) (hp : H p = none) (h0 : H0 p = none) (a : All c.K G xs vs) : Ct c σ ρ H0 G (upd H p (.lst vs)) (.ow xs) (.ref p) :=
  .ow upd_same (S.free hp) (S.efree hp) (fresh_notOwn S hp) h0 a
theorem pd_lstO (h : PDA X c es ts ws) : PDX X c (.List es pos) (tLst ts) (wLstO ws) := ⟨pe_lst h.p, fun σ ρ G H Q P S hw k => h.d σ ρ G H _ _ S hw fun vs ds ρ1 G1 H1 p1 S1 g1 i1 =>
  ⟨by rw [i1.1]; exact le_line p1.1, fun p hp => k _ _ ρ1 _ _ p1.2 (S1.newH hp) (g1.trans (.newH hp)) (ct_new S1 hp (g1.d p hp) i1)⟩⟩
/-! ### targets -/
theorem StOk.set {σ : L2.St} {ρ : Rho} {G H H0 : Hp} {s : Sl} {v : V} (S : StOk c σ ρ G H) (i : Nat) (h : Ct c σ ρ H0 G H s v) : StOk c (σ.set i (some v)) (ρ.set i (some s)) G H where
  gg := S.gg
  gh := S.gh
  eh := S.eh
  mh := S.mh
  nw := S.nw
  len := by simp [S.len]
  sl := fun j s' e => by
    rw [List.getElem?_set] at e
    by_cases hij : i = j
    · subst hij
      rw [if_pos rfl] at e
      split at e
      · cases e
        rename_i hl
        refine ⟨v, ?_, ?_, fun l ho hv => ?_⟩
        · rw [List.getElem?_set, if_pos rfl, if_pos (by rw [S.len]; exact hl)]
        · cases h with
          | sh h => exact h
          | ow h1 h2 h3 h4 h5 h6 => exact ⟨_, _, rfl, h1, h2, h6⟩
          | dk h1 h2 h3 h4 h5 h6 h7 h8 => exact ⟨_, _, rfl, h1, h2, h6, h7⟩
          | pn h1 h2 h3 h4 h5 h6 => exact ⟨_, rfl, h1, h2⟩
        · subst hv
          cases h with
          | sh h => cases ho
          | ow h1 h2 h3 h4 h5 h6 => exact .inl h3
          | dk h1 h2 h3 h4 h5 h6 h7 h8 => exact .inl h3
          | pn h1 h2 h3 h4 h5 h6 => exact .inl h3
      · cases e
    · rw [if_neg hij] at e
      obtain ⟨v', h1, h2⟩ := S.sl j s' e
      exact ⟨v', by rw [List.getElem?_set, if_neg hij]; exact h1, h2⟩
  mo := fun j s' e m l hl p hp => by
    rw [List.getElem?_set] at e hl
    by_cases hij : i = j
    · subst hij
      rw [if_pos rfl] at e
      split at e
      · cases e
        cases h with
        | sh h => cases m
        | ow _ _ _ _ _ _ => cases m
        | dk _ _ _ _ _ _ _ h6 => rw [h6] at hp; cases hp
        | pn _ _ _ _ _ h6 => rw [h6] at hp; cases hp
      · cases e
    · rw [if_neg hij] at e hl
      exact S.mo j s' e m l hl p hp
  dj := fun j k s1 s2 hjk e1 e2 o1 o2 l h1 h2 => by
    rw [List.getElem?_set] at e1 e2 h1 h2
    have key : ∀ (j : Nat) (s1 : Sl), s1.isOw = true → ρ[j]? = some (some s1) → σ[j]? = some (some (V.ref l)) → s.isOw = true → v = .ref l → False := fun j s1 o1 e1' h1' os hv => by
      subst hv
      cases h with
      | sh h => cases os
      | ow _ _ _ h4 _ _ => exact h4 j s1 e1' o1 h1'
      | dk _ _ _ h4 _ _ _ _ => exact h4 j s1 e1' o1 h1'
      | pn _ _ _ h4 _ _ => exact h4 j s1 e1' o1 h1'
    by_cases hj : i = j
    · subst hj
      rw [if_neg hjk] at e2 h2
      rw [if_pos rfl] at e1 h1
      split at e1
      · cases e1
        rename_i hl
        rw [if_pos (by rw [S.len]; exact hl)] at h1
        cases h1
        exact key k s2 o2 e2 h2 o1 rfl
      · cases e1
    · rw [if_neg hj] at e1 h1
      by_cases hk : i = k
      · subst hk
        rw [if_pos rfl] at e2 h2
        split at e2
        · cases e2
          rename_i hl
          rw [if_pos (by rw [S.len]; exact hl)] at h2
          cases h2
          exact key j s1 o1 e1 h1 o2 rfl
        · cases e2
      · rw [if_neg hk] at e2 h2
        exact S.dj j k s1 s2 hjk e1 e2 o1 o2 l h1 h2
@[simp] def wgName (i : Nat) : WG := fun d ρ P => P (Rho.s ρ i (some (.sh d)))
theorem pdg_name (i : Nat) {x : Str} (hN : X.N.Nodup) (hi : X.N[i]? = some x) (hx : Loc X.env.scope x) (hf : X.fn x = true ∨ X.env.scope.names.lookup x = some .local := by first | exact .inl rfl | exact .inr rfl | assumption) : PDG X c (.Name x pos) (gName i) (wgName i) :=
  ⟨pg_name hN hi hx hf, fun σ ρ G H v d Q P S i' hw k => k _ _ G H (by rw [← Rho.s_eq]; exact hw) (S.set (H0 := H) i (.sh i')) (Same.refl _)⟩
@[simp] def wgsNil : WGs := fun ds ρ P => match ds with
  | [] => P ρ
  | _ => False
@[simp] def wgsCons (w : WG) (ws : WGs) : WGs := fun ds ρ P => match ds with
  | d :: r => w d ρ fun ρ' => ws r ρ' P
  | [] => False
variable {tg : TG} {wg : WG} {tgs : TGs} {wgs : WGs}
theorem pdgs_nil : PDGs X c [] gNil wgsNil := ⟨pgs_nil, fun σ ρ G H vs ds Q P S a hw k => by
  cases ds with
  | nil => exact ⟨a.unnil, k σ ρ G H hw S (Same.refl _)⟩
  | cons d r => exact hw.elim⟩
theorem pdgs_cons (h1 : PDG X c a tg wg) (h2 : PDGs X c es tgs wgs) (hs : (assignEach (a :: es) X.env).map (·.2) = assign a X.env :: (assignEach es X.env).map (·.2) := by rfl) : PDGs X c (a :: es) (gCons tg tgs) (wgsCons wg wgs) := ⟨pgs_cons h1.p h2.p hs, fun σ ρ G H vs ds Q P S al hw k => by
  cases ds with
  | nil => exact hw.elim
  | cons d r =>
    obtain ⟨v, us, rfl, i1, i2⟩ := al.uncons
    exact ⟨v, us, rfl, h1.d σ ρ G H v d _ _ S i1 hw fun σ1 ρ1 G1 H1 p1 S1 g1 => h2.d σ1 ρ1 G1 H1 us r Q P S1 (i2.mono g1) p1 fun σ2 ρ2 G2 H2 p2 S2 g2 => k σ2 ρ2 G2 H2 p2 S2 (g1.trans g2)⟩⟩
@[simp] def wgTup (n : Nat) (ws : WGs) : WG := fun d ρ P => match d with
  | .tup ds => ds.length = n ∧ ws ds ρ P
  | _ => False
theorem pdg_tup {k n : Nat} (hc : X.calm = true) (h : PDGs X c es tgs wgs) (hn : (assignEach es X.env).length = n := by rfl) (hst : (assignEach es X.env).findIdx? (·.1) = none := by rfl) (hK : X.K = c.K := by rfl) : PDG X c (.Tuple es k pos) (gTup c.K n tgs) (wgTup n wgs) := by
 rw [← hK]
 exact ⟨pg_tup hc h.p hn hst, fun σ ρ G H v d Q P S i hw k => by
  cases d <;> first | exact hw.elim | skip
  cases i with
  | tup h1 h2 h3 =>
    rw [hK]
    exact ⟨_, _, rfl, seqT_mono S.gh h1, by rw [h2]; exact hw.1, h.d σ ρ G H _ _ Q P S ⟨h2, h3⟩ hw.2 k⟩⟩
/-! ### statements -/
variable {t u : TS} {w w' : WS} {st : Stmt} {sts : List Stmt} {tx : TE} {wx : WX}
@[simp] def wSeq (w w' : WS) : WS := fun ρ O => w ρ { O with nx := fun ρ' => w' ρ' O }
@[simp] def wNext : WS := fun ρ O => O.nx ρ
theorem pds_nil : PDSs X c [] tNext wNext := ⟨pss_nil, fun σ ρ G H D O S hw k1 _ _ _ => k1 σ ρ G H hw S (Same.refl _)⟩
theorem pds_cons (h1 : PDS X c st t w) (h2 : PDSs X c sts u w') : PDSs X c (st :: sts) (tSeq t u) (wSeq w w') := ⟨pss_cons h1.p h2.p, fun σ ρ G H D O S hw k1 k2 k3 k4 =>
  h1.d σ ρ G H _ _ S hw (fun σ1 ρ1 G1 H1 p1 S1 g1 => h2.d σ1 ρ1 G1 H1 D O S1 p1 (fun σ2 ρ2 G2 H2 p2 S2 g2 => k1 σ2 ρ2 G2 H2 p2 S2 (g1.trans g2)) (fun v d σ2 ρ2 G2 H2 p2 S2 g2 => k2 v d σ2 ρ2 G2 H2 p2 S2 (g1.trans g2))
    (fun σ2 ρ2 G2 H2 p2 S2 g2 => k3 σ2 ρ2 G2 H2 p2 S2 (g1.trans g2)) fun σ2 ρ2 G2 H2 p2 S2 g2 => k4 σ2 ρ2 G2 H2 p2 S2 (g1.trans g2)) k2 k3 k4⟩
theorem pds_one (h1 : PDS X c st t w) : PDSs X c [st] t w := ⟨pss_one h1.p, h1.d⟩
@[simp] def wNever : WS := fun _ _ => False
theorem pd_never : PDS X c st tNever wNever := ⟨ps_never, fun _ _ _ _ _ _ _ hw => hw.elim⟩
theorem pds_never : PDSs X c sts tNever wNever := ⟨pss_never, fun _ _ _ _ _ _ _ hw => hw.elim⟩
theorem pd_pass : PDS X c (.Pass pos) tNext wNext := ⟨ps_pass, pds_nil.d (X := X)⟩
theorem pd_doc {x j pos pos'} : PDS X c (.Expr (.Constant (.str x) j pos) pos') tNext wNext := ⟨ps_doc, pds_nil.d (X := X)⟩
@[simp] def wBreak : WS := fun ρ O => O.bk ρ
@[simp] def wCont : WS := fun ρ O => O.ct ρ
theorem pd_break : PDS X c (.Break pos) tBreak wBreak := ⟨ps_break, fun σ ρ G H D O S hw _ _ k _ => k σ ρ G H hw S (Same.refl _)⟩
theorem pd_cont : PDS X c (.Continue pos) tCont wCont := ⟨ps_continue, fun σ ρ G H D O S hw _ _ _ k => k σ ρ G H hw S (Same.refl _)⟩
@[simp] def wRet (w : WE) : WS := fun ρ O => w ρ fun d ρ' => O.rt d ρ'
theorem pd_ret (h : PDE X c a ta wa) : PDS X c (.Return (some a) pos) (tRet ta) (wRet wa) := ⟨ps_ret h.p, fun σ ρ G H D O S hw _ k _ _ => h.d σ ρ G H _ _ S hw fun v d ρ1 G1 H1 p1 S1 g1 i1 => k v d σ ρ1 G1 H1 p1 S1 g1.g i1⟩
@[simp] def wRetN : WS := fun ρ O => O.rt .non ρ
theorem pd_retN : PDS X c (.Return none pos) tRetN wRetN := ⟨ps_retN, fun σ ρ G H D O S hw _ k _ _ => k _ _ σ ρ G H hw S (Same.refl _) .non⟩
@[simp] def wDrop (w : WE) : WS := fun ρ O => w ρ fun _ ρ' => O.nx ρ'
theorem pd_expr (h : PDE X c a ta wa) (hs : swapsWith a none pos.line X.env = pure false := by rfl) : PDS X c (.Expr a pos) (tDrop ta) (wDrop wa) := ⟨ps_expr h.p hs, fun σ ρ G H D O S hw k _ _ _ => h.d σ ρ G H _ _ S hw fun v d ρ1 G1 H1 p1 S1 g1 i1 => k σ ρ1 G1 H1 p1 S1 g1.g⟩
@[simp] def wIfS (wt : WT) (w w' : WS) : WS := fun ρ O => wt ρ fun b ρ1 => (b = true → w ρ1 O) ∧ (b = false → w' ρ1 O)
theorem pd_ifS {q : Expr} {s1 s2 : List Stmt} (h : PDT X c q tt wt) (h1 : PDSs X c s1 t w) (h2 : PDSs X c s2 u w') : PDS X c (.If q s1 s2 pos) (tIfS tt t u) (wIfS wt w w') := ⟨ps_if h.p h1.p h2.p, fun σ ρ G H D O S hw k1 k2 k3 k4 => h.d σ ρ G H _ _ S hw fun x ρ1 G1 H1 p1 S1 g1 => by
  cases x with
  | true =>
    rw [if_pos rfl]
    exact h1.d σ ρ1 G1 H1 D O S1 (p1.1 rfl) (fun σ2 ρ2 G2 H2 p2 S2 g2 => k1 σ2 ρ2 G2 H2 p2 S2 (g1.g.trans g2)) (fun v d σ2 ρ2 G2 H2 p2 S2 g2 => k2 v d σ2 ρ2 G2 H2 p2 S2 (g1.g.trans g2))
      (fun σ2 ρ2 G2 H2 p2 S2 g2 => k3 σ2 ρ2 G2 H2 p2 S2 (g1.g.trans g2)) fun σ2 ρ2 G2 H2 p2 S2 g2 => k4 σ2 ρ2 G2 H2 p2 S2 (g1.g.trans g2)
  | false =>
    rw [if_neg Bool.false_ne_true]
    exact h2.d σ ρ1 G1 H1 D O S1 (p1.2 rfl) (fun σ2 ρ2 G2 H2 p2 S2 g2 => k1 σ2 ρ2 G2 H2 p2 S2 (g1.g.trans g2)) (fun v d σ2 ρ2 G2 H2 p2 S2 g2 => k2 v d σ2 ρ2 G2 H2 p2 S2 (g1.g.trans g2))
      (fun σ2 ρ2 G2 H2 p2 S2 g2 => k3 σ2 ρ2 G2 H2 p2 S2 (g1.g.trans g2)) fun σ2 ρ2 G2 H2 p2 S2 g2 => k4 σ2 ρ2 G2 H2 p2 S2 (g1.g.trans g2)⟩
/-- name = value -/
@[simp] def wSet (i : Nat) (w : WX) : WS := fun ρ O => w ρ fun s ρ' => O.nx (Rho.s ρ' i (some s))
theorem ds_set {i : Nat} (h : DX c tx wx) : DS c (tAsg tx (gName i)) (wSet i wx) := fun σ ρ G H D O S hw k _ _ _ => h σ ρ G H _ _ S hw fun v s ρ1 G1 H1 p1 S1 g1 i1 => k _ _ G1 H1 (by rw [← Rho.s_eq]; exact p1) (S1.set i i1) g1.g
theorem pd_set (i : Nat) {x : Str} {e : Expr} {pos' : Pos} (hN : X.N.Nodup) (hi : X.N[i]? = some x) (hx : Loc X.env.scope x) (he : PDX X c e tx wx) (hs : swapsWith e (some (.Name x pos')) pos.line X.env = pure false := by rfl) (hf : X.fn x = true ∨ X.env.scope.names.lookup x = some .local := by first | exact .inl rfl | exact .inr rfl | assumption) :
    PDS X c (.Assign [.Name x pos'] e pos) (tAsg tx (gName i)) (wSet i wx) := ⟨ps_set hN hi hx he.p hs hf, ds_set he.d⟩
/-- a, b, .. = a tuple -/
@[simp] def wAsg (w : WE) (wg : WG) : WS := fun ρ O => w ρ fun d ρ' => wg d ρ' O.nx
theorem pd_asg {tgt e : Expr} (he : PDE X c e ta wa) (hg : PDG X c tgt tg wg) (hs : swapsWithSole [tgt] e pos.line X.env = pure false := by rfl) (hw : swappedStores [tgt] e X.env = pure none := by rfl)
    (h1 : (assignEach [tgt] X.env).map (·.2) = [assign tgt X.env] := by rfl) : PDS X c (.Assign [tgt] e pos) (tAsg ta tg) (wAsg wa wg) := ⟨ps_asg he.p hg.p hs hw h1, fun σ ρ G H D O S hw k _ _ _ => he.d σ ρ G H _ _ S hw fun v d ρ1 G1 H1 p1 S1 g1 i1 =>
  hg.d σ ρ1 G1 H1 v d _ _ S1 i1 p1 fun σ2 ρ2 G2 H2 p2 S2 g2 => k σ2 ρ2 G2 H2 p2 S2 (g1.g.trans g2)⟩
end
end DL
end

section
set_option maxRecDepth 100000
set_option maxHeartbeats 1000000
namespace DL
open PySem PySem.Spec PyProof.Rows L2
/-! ### a def's promise over data -/
abbrev XPr := Addr → List Str → List D → Prop
abbrev Spc := List D → (D → Prop) → XPr → Prop
/-- the frame's heap behind a call: what it knew, and what is new -/
def extG (G H H' : Hp) : Hp := fun a => match H a with
  | none => H' a
  | some _ => G a
theorem ext_new {G H H' : Hp} {a : Addr} (h : H a = none) : extG G H H' a = H' a := by unfold extG; rw [h]
theorem ext_old {G H H' : Hp} {a : Addr} {u : HO} (h : H a = some u) : extG G H H' a = G a := by unfold extG; rw [h]
theorem ext_same {G H H' : Hp} (g : Same G H) : Same G (extG G H H') := fun a u e => by
  rw [ext_old (g a u e)]
  exact e
theorem ext_sub {G H H' : Hp} (g : Same G H) (h : ∀ a u, H a = some u → G a ≠ none → H' a = some u) : Same (extG G H H') H' := fun a u e => by
  cases ha : H a with
  | none => rw [ext_new ha] at e; exact e
  | some o =>
    rw [ext_old ha] at e
    exact h a u (g a u e) (by rw [e]; exact fun z => by cases z)
theorem ext_nw {G H H' : Hp} : ∀ a o, extG G H H' a = some o → G a = some o ∨ H a = none := fun a o e => by
  cases ha : H a with
  | none => exact .inr rfl
  | some u => rw [ext_old ha] at e; exact .inl e
def SpD (K : PySem.W.Frag) (n : Nat) (spec : Spc) : Sp := fun vs H Q E => ∃ (G : Hp) (ds : List D) (P : D → Prop) (XP : XPr), Same G H ∧ All K G ds vs ∧ ds.length = n ∧ spec ds P XP ∧
  (∀ v d H', P d → Same H H' → Is K (extG G H H') d v → Q v H') ∧
  (∀ C nm xs dd (us : List V) H', XP C nm xs → Same H H' → H dd = none → H' dd = some (.xd (nm.zip us)) → All K (extG G H H') xs us → E (.ref C) (some dd) H')
/-- of a def that draws: its first argument is the pen -/
abbrev SpcP := Nat → List D → (D → Nat → Prop) → Prop
def SpP (K : PySem.W.Frag) (n : Nat) (spec : SpcP) : Sp := fun vs H Q E => ∃ (G : Hp) (p : Addr) (m : Nat) (ds : List D) (us : List V) (P : D → Nat → Prop), vs = .ref p :: us ∧ Same G H ∧ G p = none ∧ PenAt K G H p m ∧ All K G ds us ∧ ds.length = n ∧ spec m ds P ∧
  ∀ v d m' H', P d m' → (∀ a u, H a = some u → a ≠ p → H' a = some u) → PenAt K (extG G H H') H' p m' → Is K (extG G H H') d v → Q v H'
/-- the slots at the entry -/
def rho0 (N : List Str) (ds : List D) : Rho := ds.map (fun d => some (.sh d)) ++ List.replicate (N.length - ds.length) none
def rhoP (N : List Str) (m : Nat) (ds : List D) : Rho := some (.pn m) :: (ds.map (fun d => some (.sh d)) ++ List.replicate (N.length - (ds.length + 1)) none)
theorem get_start {N : List Str} {vs : List V} {i : Nat} {v : V} (h : vs[i]? = some v) : (L2.start N vs)[i]? = some (some v) := by
  unfold L2.start
  have hi : i < vs.length := (List.getElem?_eq_some_iff.mp h).1
  rw [List.getElem?_append_left (by rw [List.length_map]; exact hi), List.getElem?_map, h]
  rfl
theorem get_rho0 {N : List Str} {ds : List D} {i : Nat} {s : Sl} (h : (rho0 N ds)[i]? = some (some s)) : ∃ d, ds[i]? = some d ∧ s = .sh d := by
  unfold rho0 at h
  by_cases hi : i < ds.length
  · rw [List.getElem?_append_left (by rw [List.length_map]; exact hi), List.getElem?_map] at h
    cases e : ds[i]? with
    | none => rw [e] at h; cases h
    | some d => rw [e] at h; cases h; exact ⟨d, rfl, rfl⟩
  · rw [List.getElem?_append_right (by rw [List.length_map]; omega), List.getElem?_replicate] at h
    split at h <;> cases h
theorem entry {c : Cq} {N : List Str} {vs : List V} {ds : List D} (hg : Same c.G0 c.E0) (hm : c.mu = none) (al : All c.K c.G0 ds vs) : StOk c (L2.start N vs) (rho0 N ds) c.G0 c.E0 where
  gg := Same.refl _
  gh := hg
  eh := fun a o e _ => e
  mh := fun a m => by rw [hm] at m; cases m
  nw := fun a o e => .inl e
  len := by simp [L2.start, rho0, al.1]
  sl := fun i s e => by
    obtain ⟨d, h1, rfl⟩ := get_rho0 e
    obtain ⟨v, h2, h3⟩ := al.get h1
    exact ⟨v, get_start h2, h3, fun l o => by cases o⟩
  mo := fun i s e m => by
    obtain ⟨d, h1, rfl⟩ := get_rho0 e
    cases m
  dj := fun i j s s' _ e _ o => by
    obtain ⟨d, h1, rfl⟩ := get_rho0 e
    cases o
theorem all_of_len {K : PySem.W.Frag} {G : Hp} {ds : List D} {vs : List V} (h : All K G ds vs) : vs.length = ds.length := h.1
section
variable {P : Program} {w : World} {K : PySem.W.Frag} {mg : Str → Option Value} {base : Heap}
/-- the context of a body's run over data -/
abbrev cqOf (K : PySem.W.Frag) (G H : Hp) (E : XK) (XP : XPr)
    (ex : ∀ C nm ds dd (vs : List V) G' H', XP C nm ds → Same G G' → Same G' H' → (∀ a o, H a = some o → (none : Option Addr) ≠ some a → H' a = some o) → (∀ a o, G' a = some o → G a = some o ∨ H a = none) →
    H dd = none → H' dd = some (.xd (nm.zip vs)) → All K G' ds vs → E (.ref C) (some dd) H') : Cq := ⟨K, G, H, none, E, XP, ex⟩
theorem okD {x qual : Str} {st : Stmt} {f : Addr} {fd : FuncData} {N ps : List Str} {k n : Nat} {spec : Spc} (F : Fun K x qual st f fd) (S : FnScope N ps (defScope st)) (hn : n = ps.length)
    (hbody : ∀ (cdv : Value) (A : Around) (outer : List Env) (s : Shared) (H : Hp) (E : XK) (G : Hp) (XP : XPr) ex, Room k (A.deeper (envOfC qual (defScope st) s.heap.objs.size f cdv)) →
      Takes (cxOf (L2.CX P w) P w K mg base N qual (defScope st) f cdv A outer s H E) (fun cls d _ H9 => E cls d H9) →
      ∃ t wb, PDSs (cxOf (L2.CX P w) P w K mg base N qual (defScope st) f cdv A outer s H E) (cqOf K G H E XP ex) (defBody st) t wb ∧
        ∀ ds Pv, ds.length = n → spec ds Pv XP → wb (rho0 N ds) { nx := fun _ => Pv .non, rt := fun d _ => Pv d }) :
    FnOk P w K mg base (L2.CX P w) (k + 1) f fd ps (SpD K n spec) := by
  refine F.okX S (fun vs H Q E h => ?_) (fun cdv A outer s H vs Q E hr h => ?_)
  · obtain ⟨G, ds, Pv, XP, h1, h2, h3, _⟩ := h
    rw [h2.1, h3, hn]
  · obtain ⟨G, ds, Pv, XP, h1, h2, h3, h4, h5, h6⟩ := h
    have sub : ∀ {G' H' : Hp}, Same G G' → Same G' H' → (∀ a o, G' a = some o → G a = some o ∨ H a = none) → Same G' (extG G H H') := fun {G' H'} g1 g2 nw a u e => by
      cases ha : H a with
      | none => rw [ext_new ha]; exact g2 a u e
      | some o =>
        rw [ext_old ha]
        rcases nw a u e with z | z
        · exact z
        · rw [ha] at z; cases z
    have ex : ∀ C nm ds dd (vs : List V) G' H', XP C nm ds → Same G G' → Same G' H' → (∀ a o, H a = some o → (none : Option Addr) ≠ some a → H' a = some o) → (∀ a o, G' a = some o → G a = some o ∨ H a = none) →
        H dd = none → H' dd = some (.xd (nm.zip vs)) → All K G' ds vs → E (.ref C) (some dd) H' := fun C nm ds dd vs G' H' x g1 g2 e1 nw e2 e3 al =>
      h6 C nm ds dd vs H' x (fun a o e => e1 a o e (fun z => by cases z)) e2 e3 (al.mono (sub g1 g2 nw))
    obtain ⟨t, wb, hp, hw⟩ := hbody cdv A outer s H E G XP ex hr (takes_of (E := E) rfl rfl rfl rfl)
    refine ⟨t, hp.p, hp.d _ _ G H _ { nx := fun _ => Pv .non, rt := fun d _ => Pv d } (entry (c := cqOf K G H E XP ex) h1 rfl h2) (hw ds Pv h3 h4) ?_ ?_ ?_ ?_⟩
    · exact fun σ' ρ' G' H' p S' g => h5 .non .non H' p (fun a o e => S'.eh a o e (fun z => by cases z)) .non
    · exact fun v d σ' ρ' G' H' p S' g i => h5 v d H' p (fun a o e => S'.eh a o e (fun z => by cases z)) (i.mono (sub S'.gg S'.gh S'.nw))
    · exact fun _ _ _ _ p => p.elim
    · exact fun _ _ _ _ p => p.elim
end
/-! ### calls -/
/-- a def of the module that may be called by its name -/
structure Cal (P : Program) (w : World) (K : PySem.W.Frag) (mg : Str → Option Value) (base : Heap) (k : Nat) (x : Str) (sp : Sp) : Prop where
  ex : ∃ (f : Addr) (fd : FuncData) (ps : List Str), FnOk P w K mg base (L2.CX P w) k f fd ps sp ∧ mg x = some (.ref f) ∧ PySem.W.keepIn K (.ref f) = true ∧ Binds K fd ps []
section
variable {c : Cq} {X : Cx} {a b e : Expr} {es : List Expr} {ta tb : TE} {ts : TA} {wa wb : WE} {ws : WA} {w2 : W2} {p pos : Pos} {x : Str} {k j n : Nat} {spec : Spc}
@[simp] def wCall (n : Nat) (spec : Spc) (XP : XPr) (ws : WA) : WE := fun ρ P => ws ρ fun ds ρ1 => ds.length = n ∧ spec ds (fun d => P d ρ1) XP
theorem StOk.ext {σ : L2.St} {ρ : Rho} {G H H' : Hp} (S : StOk c σ ρ G H) (hh : Same H H') : StOk c σ ρ (extG G H H') H' := S.grow (ext_same S.gh) hh (ext_sub S.gh fun a u e _ => hh a u e) ext_nw
theorem Step.ext {σ : L2.St} {ρ : Rho} {G H H' : Hp} (g : Same G H) (hh : Same H H') : Step σ ρ ρ G H (extG G H H') H' := .grow (ext_same g) hh ext_nw
theorem sp_use {σ : L2.St} {ρ1 : Rho} {G1 H1 : Hp} {vs : List V} {ds : List D} {Q : VK} {P : D → Prop} (S1 : StOk c σ ρ1 G1 H1) (i1 : All c.K G1 ds vs) (hn : ds.length = n) (hs : spec ds P c.XP)
    (k : ∀ v d H', P d → Same H1 H' → Is c.K (extG G1 H1 H') d v → Q v H') : SpD c.K n spec vs H1 Q c.E :=
  ⟨G1, ds, P, c.XP, S1.gh, i1, hn, hs, k, fun C nm xs dd us H' xp hh hd he al =>
    c.ex C nm xs dd us _ H' xp (S1.gg.trans (ext_same S1.gh)) (ext_sub S1.gh fun a u e _ => hh a u e) (fun a o e m => hh a o (S1.eh a o e m)) (S1.ext hh).nw (S1.efree hd) he al⟩
theorem de_call (h : DA c ts ws) : DE c (tCall (SpD c.K n spec) [] c.E ts) (wCall n spec c.XP ws) := fun σ ρ G H Q P S hw k =>
  h σ ρ G H _ _ S hw fun vs ds ρ1 G1 H1 p1 S1 g1 i1 => by
    rw [List.append_nil]
    exact sp_use S1 i1 p1.1 p1.2 fun v d H' pd hh i => k v d ρ1 _ H' pd (S1.ext hh) (g1.trans (.ext S1.gh hh)) i
theorem pd_call (C : Cal X.prog X.w X.K X.mg X.base k x (SpD c.K n spec)) (hr : Room j X.A) (hk : k ≤ j) (hg : Gl X x) (tk : Takes X (fun cls d _ H => c.E cls d H)) (h : PDA X c (e :: es) ts ws)
    (hdb : (x == ("__debug__" : Str)) = false := by decide) (he : starEach (e :: es) X.env = (false, eval e X.env) :: starEach es X.env := by rfl) (hpl : (backTo pos (starEach es X.env)).any (·.1) = false := by rfl) :
    PDE X c (.Call (.Name x p) (e :: es) [] pos) (tCall (SpD c.K n spec) [] c.E ts) (wCall n spec c.XP ws) := by
  obtain ⟨f, fd, ps, F, hm, hkp, hb⟩ := C.ex
  exact ⟨pe_call F (hr.mono hk) hg hm hkp hb .nil (passes_call tk fun _ _ _ _ z => z) h.p hdb he hpl, de_call h.d⟩
theorem pd_call0 (C : Cal X.prog X.w X.K X.mg X.base k x (SpD c.K n spec)) (hr : Room j X.A) (hk : k ≤ j) (hg : Gl X x) (tk : Takes X (fun cls d _ H => c.E cls d H))
    (hdb : (x == ("__debug__" : Str)) = false := by decide) : PDE X c (.Call (.Name x p) [] [] pos) (tCall (SpD c.K n spec) [] c.E tNil) (wCall n spec c.XP waNil) := by
  obtain ⟨f, fd, ps, F, hm, hkp, hb⟩ := C.ex
  exact ⟨pe_call0 F (hr.mono hk) hg hm hkp hb .nil (passes_call tk fun _ _ _ _ z => z) hdb, de_call (pda_nil (X := X)).d⟩
/-! ### built-ins of one argument -/
def CbD (c : Cq) (r : List V → Hp → VK → Prop) (k : D → (D → Prop) → Prop) : Prop := ∀ G H (Q : VK) (P : D → Prop) x dx, Same G H → Rv c.K G H dx x → k dx P →
  (∀ v d, P d → Is c.K G d v → Q v H) → (∀ p o d, H p = none → P d → Is c.K (upd G p o) d (.ref p) → Q (.ref p) (upd H p o)) → r [x] H Q
@[simp] def wOne (w : WE) (k : D → (D → Prop) → Prop) : WE := fun ρ P => w ρ fun x ρ1 => k x fun z => P z ρ1
theorem de_one {r : List V → Hp → VK → Prop} {k : D → (D → Prop) → Prop} (hd : CbD c r k) (h : DR c ta wa) : DE c (tCB r (tCons ta tNil)) (wOne wa k) := fun σ ρ G H Q P S hw q =>
  h σ ρ G H _ _ S hw fun x dx ρ1 G1 H1 p1 S1 g1 i1 => hd G1 H1 Q _ x dx S1.gh i1 p1 (fun v d p' i => q v d ρ1 G1 H1 p' S1 g1 i)
    fun l o d hl p' i => q _ d ρ1 _ _ p' (S1.new hl) (g1.trans (.new (S1.free hl) hl)) i
theorem pd_one1 {id : String} {r : List V → Hp → VK → Prop} {k : D → (D → Prop) → Prop} (hc : CallR X (.builtin id) r) (hd : CbD c r k) (hg : Gl X x) (hm : X.mg x = none) (hv : bootBuiltins x = some (.builtin id)) (h : PDR X c a ta wa) (hn : x ≠ "__name__" := by decide) (hdb : (x == ("__debug__" : Str)) = false := by decide)
    (hs : starEach [a] X.env = (false, eval a X.env) :: starEach [] X.env := by rfl) : PDE X c (.Call (.Name x p) [a] [] pos) (tCB r (tCons ta tNil)) (wOne wa k) := ⟨pe_callB hc hg hm hv (pa_cons h.p pa_nil hs) hn hdb hs rfl, de_one hd h.d⟩
theorem pd_ty1 {T : String} {r : List V → Hp → VK → Prop} {k : D → (D → Prop) → Prop} (hc : CallR X (.type T) r) (hd : CbD c r k) (hg : Gl X x) (hm : X.mg x = none) (hv : bootBuiltins x = some (.type T)) (h : PDR X c a ta wa) (hn : x ≠ "__name__" := by decide) (hdb : (x == ("__debug__" : Str)) = false := by decide)
    (hs : starEach [a] X.env = (false, eval a X.env) :: starEach [] X.env := by rfl) : PDE X c (.Call (.Name x p) [a] [] pos) (tCB r (tCons ta tNil)) (wOne wa k) := ⟨pe_callTy hc hg hm hv (pa_cons h.p pa_nil hs) hn hdb hs rfl, de_one hd h.d⟩
def rLen (K : PySem.W.Frag) : List V → Hp → VK → Prop := fun xs H Q => (∃ p ys, xs = [.ref p] ∧ (SqL K H p ys ∨ SqT K H p ys) ∧ Q (.int ys.length) H) ∨ ∃ z, xs = [.str z] ∧ z.length ≤ sizeLine ∧ Q (.int z.length) H
theorem call_lenA : CallR X (.builtin "len") (rLen X.K) := CallR.or call_len_seq call_len_str
@[simp] def kLen : D → (D → Prop) → Prop
  | .lst xs, P => P (.int xs.length)
  | .tup xs, P => P (.int xs.length)
  | .str x, P => x.length ≤ sizeLine ∧ P (.int x.length)
  | _, _ => False
theorem Rv.tup {K : PySem.W.Frag} {G H : Hp} {xs : List D} {v : V} (g : Same G H) (h : Rv K G H (.tup xs) v) : ∃ l vs, v = .ref l ∧ SqT K G l vs ∧ SqT K H l vs ∧ All K G xs vs := by
  cases h with
  | is h => cases h with | tup h l k => exact ⟨_, _, rfl, h, seqT_mono g h, l, k⟩
theorem cb_len : CbD c (rLen c.K) kLen := fun G H Q P x dx g hx h q _ => by
  cases dx <;> first | exact h.elim | skip
  · cases hx.str; exact .inr ⟨_, rfl, h.1, q _ _ h.2 (.int _)⟩
  · obtain ⟨l, vs, rfl, _, h2, al⟩ := hx.tup g
    exact .inl ⟨l, vs, rfl, .inr h2, by rw [al.1]; exact q _ _ h (.int _)⟩
  · obtain ⟨l, vs, rfl, h2, al⟩ := hx.lst g
    exact .inl ⟨l, vs, rfl, .inl (.of h2), by rw [al.1]; exact q _ _ h (.int _)⟩
theorem pd_len (hm : X.mg "len" = none) (h : PDR X c a ta wa) (hg : Gl X "len" := by rfl) (hK : X.K = c.K := by rfl) (hs : starEach [a] X.env = (false, eval a X.env) :: starEach [] X.env := by rfl) : PDE X c (.Call (.Name "len" p) [a] [] pos) (tCB (rLen c.K) (tCons ta tNil)) (wOne wa kLen) := by
 rw [← hK]
 exact pd_one1 call_lenA (by rw [hK]; exact cb_len) hg hm PySem.boot_len h (hs := hs)
@[simp] def kAbs : D → (D → Prop) → Prop
  | .int i, P => P (.int (if i < 0 then -i else i))
  | _, _ => False
theorem cb_abs : CbD c (fun xs H Q => ∃ i, xs = [.int i] ∧ Q (.int (if i < 0 then -i else i)) H) kAbs := fun G H Q P x dx g hx h q _ => by
  cases dx <;> first | exact h.elim | skip
  exact ⟨_, by rw [hx.int], q _ _ h (.int _)⟩
@[simp] def kInt : D → (D → Prop) → Prop
  | .int i, P => P (.int i)
  | .bl b, P => P (.int (if b then 1 else 0))
  | _, _ => False
theorem Rv.bl {K : PySem.W.Frag} {G H : Hp} {b : Bool} {v : V} (h : Rv K G H (.bl b) v) : v = .bl b := by
  cases h with
  | is h => cases h; rfl
theorem cb_int : CbD c (fun xs H Q => (∃ i, xs = [V.int i] ∧ Q (.int i) H) ∨ ∃ k, xs = [.bl k] ∧ Q (.int (if k then 1 else 0)) H) kInt := fun G H Q P x dx g hx h q _ => by
  cases dx <;> first | exact h.elim | skip
  · exact .inr ⟨_, by rw [hx.bl], q _ _ h (.int _)⟩
  · exact .inl ⟨_, by rw [hx.int], q _ _ h (.int _)⟩
theorem boot_int : bootBuiltins "int" = some (.type "int") := by decide +kernel
theorem boot_abs : bootBuiltins "abs" = some (.builtin "abs") := by decide +kernel
theorem boot_list : bootBuiltins "list" = some (.type "list") := by decide +kernel
theorem boot_tuple : bootBuiltins "tuple" = some (.type "tuple") := by decide +kernel
theorem pd_intOf (hm : X.mg "int" = none) (h : PDR X c a ta wa) (hg : Gl X "int" := by rfl) (hs : starEach [a] X.env = (false, eval a X.env) :: starEach [] X.env := by rfl) :
    PDE X c (.Call (.Name "int" p) [a] [] pos) (tCB (fun xs H Q => (∃ i, xs = [V.int i] ∧ Q (.int i) H) ∨ ∃ k, xs = [.bl k] ∧ Q (.int (if k then 1 else 0)) H) (tCons ta tNil)) (wOne wa kInt) := pd_ty1 call_int1 cb_int hg hm boot_int h (hs := hs)
theorem pd_abs (hm : X.mg "abs" = none) (h : PDR X c a ta wa) (hg : Gl X "abs" := by rfl) (hs : starEach [a] X.env = (false, eval a X.env) :: starEach [] X.env := by rfl) :
    PDE X c (.Call (.Name "abs" p) [a] [] pos) (tCB (fun xs H Q => ∃ i, xs = [V.int i] ∧ Q (.int (if i < 0 then -i else i)) H) (tCons ta tNil)) (wOne wa kAbs) := pd_one1 call_abs cb_abs hg hm boot_abs h (hs := hs)
/-- tuple(x) -/
def rTupOf (K : PySem.W.Frag) : List V → Hp → VK → Prop := fun xs H Q => ∃ p ys, xs = [.ref p] ∧ ((SqL K H p ys ∧ ∀ l, H l = none → Q (.ref l) (upd H l (.tup ys))) ∨ (SqT K H p ys ∧ Q (.ref p) H))
@[simp] def kTupOf : D → (D → Prop) → Prop
  | .lst xs, P => P (.tup xs)
  | .tup xs, P => P (.tup xs)
  | _, _ => False
theorem cb_tupOf : CbD c (rTupOf c.K) kTupOf := fun G H Q P x dx g hx h q qn => by
  cases dx <;> first | exact h.elim | skip
  · obtain ⟨l, vs, rfl, h1, h2, al⟩ := hx.tup g
    exact ⟨l, vs, rfl, .inr ⟨h2, q _ _ h (.tup h1 al.1 al.2)⟩⟩
  · obtain ⟨l, vs, rfl, h2, al⟩ := hx.lst g
    exact ⟨l, vs, rfl, .inl ⟨.of h2, fun m hm => qn m _ _ hm h (.tup (.of upd_same) al.1 (al.mono (same_new (g.free hm))).2)⟩⟩
theorem pd_tupOf (hm : X.mg "tuple" = none) (h : PDR X c a ta wa) (hg : Gl X "tuple" := by rfl) (hK : X.K = c.K := by rfl) (hs : starEach [a] X.env = (false, eval a X.env) :: starEach [] X.env := by rfl) : PDE X c (.Call (.Name "tuple" p) [a] [] pos) (tCB (rTupOf c.K) (tCons ta tNil)) (wOne wa kTupOf) := by
 rw [← hK]
 exact pd_ty1 call_tuple_of (by rw [hK]; exact cb_tupOf) hg hm boot_tuple h (hs := hs)
/-- list(x): a list of one's own -/
def rLstOf (K : PySem.W.Frag) : List V → Hp → VK → Prop := fun xs H Q => ∃ p ys, xs = [.ref p] ∧ (SqL K H p ys ∨ SqT K H p ys) ∧ ∀ l, H l = none → Q (.ref l) (upd H l (.lst ys))
@[simp] def kLstOf : D → (List D → Prop) → Prop
  | .lst xs, P => P xs
  | .tup xs, P => P xs
  | _, _ => False
@[simp] def wLstOf (w : WE) : WX := fun ρ P => w ρ fun x ρ1 => kLstOf x fun xs => P (.ow xs) ρ1
theorem dx_lstOf (h : DR c ta wa) : DX c (tCB (rLstOf c.K) (tCons ta tNil)) (wLstOf wa) := fun σ ρ G H Q P S hw k =>
  h σ ρ G H _ _ S hw fun x dx ρ1 G1 H1 p1 S1 g1 i1 => by
    cases dx <;> first | exact p1.elim | skip
    · obtain ⟨l, vs, rfl, h1, h2, al⟩ := i1.tup S1.gh
      exact ⟨l, vs, rfl, .inr h2, fun m hm => k _ _ ρ1 _ _ p1 (S1.newH hm) (g1.trans (.newH hm)) (ct_new S1 hm (g1.d m hm) al)⟩
    · obtain ⟨l, vs, rfl, h2, al⟩ := i1.lst S1.gh
      exact ⟨l, vs, rfl, .inl (.of h2), fun m hm => k _ _ ρ1 _ _ p1 (S1.newH hm) (g1.trans (.newH hm)) (ct_new S1 hm (g1.d m hm) al)⟩
theorem pd_lstOf (hm : X.mg "list" = none) (h : PDR X c a ta wa) (hg : Gl X "list" := by rfl) (hK : X.K = c.K := by rfl) (hs : starEach [a] X.env = (false, eval a X.env) :: starEach [] X.env := by rfl) : PDX X c (.Call (.Name "list" p) [a] [] pos) (tCB (rLstOf c.K) (tCons ta tNil)) (wLstOf wa) := by
 rw [← hK]
 exact ⟨pe_callTy call_list_of hg hm boot_list (pa_cons h.p pa_nil hs) (by decide) (by decide) hs rfl, by rw [hK]; exact dx_lstOf h.d⟩
/-! ### isinstance -/
/-- an own class that is none of the built-in ones -/
structure NotB (K : PySem.W.Frag) (C : Addr) : Prop where
  t : ∀ T ∈ (["NoneType", "bool", "int", "str", "tuple", "list"] : List String), PySem.W.kitOne K (.type T) (.ref C) = some false
/-- the built-in type of data that is no instance -/
@[simp] def tyD : D → Option String
  | .non => some "NoneType"
  | .bl _ => some "bool"
  | .int _ => some "int"
  | .str _ => some "str"
  | .tup _ => some "tuple"
  | .lst _ => some "list"
  | _ => none
theorem tyD_in {d : D} {T : String} (h : tyD d = some T) : T ∈ (["NoneType", "bool", "int", "str", "tuple", "list"] : List String) := by
  cases d <;> first | (cases h; decide) | cases h
theorem tyX_of {K : PySem.W.Frag} {G H : Hp} {d : D} {v : V} {T : String} (g : Same G H) (h : Rv K G H d v) (e : tyD d = some T) : TyX K H v (.type T) := by
  cases d with
  | non => cases e; cases h with | is h => cases h; exact .base .non
  | bl b => cases e; rw [h.bl]; exact .base (.bl _)
  | int i => cases e; rw [h.int]; exact .base (.int _)
  | str i => cases e; rw [h.str]; exact .base (.str _)
  | ref a => cases e
  | scr a => cases e
  | tup xs =>
    cases e
    obtain ⟨l, vs, rfl, _, h2, _⟩ := h.tup g
    rcases h2 with (h2 | ⟨o, h2⟩) | ⟨o, its, n, h2, h3, _⟩
    · exact .base (.tup h2)
    · exact .fTuple h2
    · exact .kTuple h2 h3
  | lst xs =>
    cases e
    obtain ⟨l, vs, rfl, h2, _⟩ := h.lst g
    exact .base (.lst h2)
  | ins C nm xs => cases e
/-- isinstance(x, C), an own class: instances of C alone are such -/
@[simp] def kIsC (C : Addr) (ok : Addr → Option Bool) : D → (D → Prop) → Prop := fun d P => match tyD d with
  | some _ => P (.bl false)
  | none => match d with
    | .ins C' _ _ => match ok C' with
      | some b => P (.bl b)
      | none => False
    | _ => False
/-- isinstance(x, T), T built-in -/
@[simp] def kIsT (T : String) : D → (D → Prop) → Prop := fun d P => match tyD d with
  | some U => match kitB U T with
    | some b => P (.bl b)
    | none => False
  | none => False
/-- the class of instances, for isinstance -/
structure InsC (K : PySem.W.Frag) (C : Addr) : Prop where
  cl : Cls K C
  ha : PySem.W.findIn K (.ref C) "__class__" = some (some (.builtin "object.__class__"))
  hn : PySem.W.specialIn K (.builtin "object.__class__") "__get__" = some (some (.builtin "getset_descriptor.__get__"))
  tk : PySem.W.takesIn K (.builtin "object.__class__") = some true
  hm : PySem.W.mroIn K C (.type "object") = some true
def wIsi (w : WE) (k : D → (D → Prop) → Prop) : WE := wOne w k
theorem pd_isT {T : String} {y : Str} {p2 : Pos} (hm : X.mg "isinstance" = none) (hy : X.mg y = none) (hv : bootBuiltins y = some (.type T)) (h : PDE X c a ta wa) (hg : Gl X "isinstance" := by rfl) (hgy : Gl X y := by rfl) (hK : X.K = c.K := by rfl)
    (hs : starEach [a, .Name y p2] X.env = (false, eval a X.env) :: starEach [.Name y p2] X.env := by rfl) (hs2 : starEach [.Name y p2] X.env = (false, eval (.Name y p2) X.env) :: starEach [] X.env := by rfl)
    (hpl : (backTo pos (starEach [.Name y p2] X.env)).any (·.1) = false := by rfl) (hny : y ≠ "__name__" := by decide) (hdy : (y == ("__debug__" : Str)) = false := by decide) : PDE X c (.Call (.Name "isinstance" p) [a, .Name y p2] [] pos) (tCB (rIsi c.K) (tCons ta (tCons (tC (.ty T)) tNil))) (wOne wa (kIsT T)) := by
 rw [← hK]
 exact ⟨pe_callB call_isi hg hm (by decide +kernel) (pa_cons h.p (pa_cons (pe_bltn hgy hy hv rfl hny hdy) pa_nil hs2) hs) (by decide) (by decide) hs hpl, fun σ ρ G H Q P S hw k => h.d σ ρ G H _ _ S hw fun x dx ρ1 G1 H1 p1 S1 g1 i1 => by
    unfold kIsT at p1
    cases e : tyD dx with
    | none => rw [e] at p1; exact p1.elim
    | some U =>
      rw [e] at p1
      dsimp only at p1
      cases e2 : kitB U T with
      | none => rw [e2] at p1; exact p1.elim
      | some b =>
        rw [e2] at p1
        exact ⟨x, .ty T, .type U, .type T, b, rfl, .ty T, by rw [hK]; exact tyX_of S1.gh (.is i1) e, kit_ty e2, k _ _ ρ1 G1 H1 p1 S1 g1 (.bl _)⟩⟩
theorem pd_isC {C : Addr} {ok : Addr → Option Bool} {y : Str} {p2 : Pos} (hm : X.mg "isinstance" = none) (hy : X.mg y = some (.ref C)) (nb : NotB X.K C) (hok : ∀ C' b, ok C' = some b → InsC X.K C' ∧ PySem.W.kitOne X.K (.ref C') (.ref C) = some b) (h : PDE X c a ta wa) (hg : Gl X "isinstance" := by rfl) (hgy : Gl X y := by rfl) (hK : X.K = c.K := by rfl)
    (hs : starEach [a, .Name y p2] X.env = (false, eval a X.env) :: starEach [.Name y p2] X.env := by rfl) (hs2 : starEach [.Name y p2] X.env = (false, eval (.Name y p2) X.env) :: starEach [] X.env := by rfl)
    (hpl : (backTo pos (starEach [.Name y p2] X.env)).any (·.1) = false := by rfl) (hdy : (y == ("__debug__" : Str)) = false := by decide) : PDE X c (.Call (.Name "isinstance" p) [a, .Name y p2] [] pos) (tCB (rIsi c.K) (tCons ta (tCons (tC (.ref C)) tNil))) (wOne wa (kIsC C ok)) := by
 rw [← hK]
 exact ⟨pe_callB call_isi hg hm (by decide +kernel) (pa_cons h.p (pa_cons (pe_glob hgy hy rfl hdy) pa_nil hs2) hs) (by decide) (by decide) hs hpl, fun σ ρ G H Q P S hw k => h.d σ ρ G H _ _ S hw fun x dx ρ1 G1 H1 p1 S1 g1 i1 => by
    unfold kIsC at p1
    cases e : tyD dx with
    | some U =>
      rw [e] at p1
      exact ⟨x, .ref C, .type U, .ref C, false, rfl, .own C, by rw [hK]; exact tyX_of S1.gh (.is i1) e, nb.t U (tyD_in e), k _ _ ρ1 G1 H1 p1 S1 g1 (.bl _)⟩
    | none =>
      rw [e] at p1
      cases dx <;> first | exact p1.elim | skip
      rename_i C' nm xs
      dsimp only at p1
      cases e2 : ok C' with
      | none => rw [e2] at p1; exact p1.elim
      | some b =>
        rw [e2] at p1
        obtain ⟨q1, q2⟩ := hok C' b e2
        cases i1 with
        | ins h1 h2 h3 h4 => exact ⟨_, .ref C, .ref C', .ref C, b, rfl, .own C, .base (.ins (S1.gh _ _ h1) q1.cl q1.ha q1.hn q1.tk q1.hm), q2, k _ _ ρ1 G1 H1 p1 S1 g1 (.bl _)⟩⟩
end
end DL
end

section
set_option maxRecDepth 100000
set_option maxHeartbeats 1000000
namespace DL
open PySem PySem.Spec PyProof.Rows L2
section
variable {c : Cq} {X : Cx} {a b e : Expr} {es : List Expr} {ta tb te tx : TE} {ts : TA} {wa wb we : WE} {ws : WA} {w2 : W2} {wx : WX} {p pos : Pos} {x : Str}
/-! ### subscripts -/
theorem All.at {K : PySem.W.Frag} {G : Hp} {xs : List D} {vs : List V} (al : All K G xs vs) {i : Int} {d : D} (h : atI xs i = some d) : ∃ v, atI vs i = some v ∧ Is K G d v := by
  unfold atI at h ⊢
  rw [al.1]
  cases e : ixN xs.length i with
  | none => rw [e] at h; cases h
  | some j =>
    rw [e] at h
    exact al.get h
def kIx : D → D → (D → Prop) → Prop
  | .lst xs, .int i, P => match atI xs i with
    | some d => P d
    | none => False
  | .tup xs, .int i, P => match atI xs i with
    | some d => P d
    | none => False
  | _, _, _ => False
def rIxA (K : PySem.W.Frag) : R2 := fun x y H Q => rIxL K x y H Q ∨ rIxT K x y H Q
theorem ix_A : IxR X (rIxA X.K) := IxR.or ix_list ix_tup
theorem opd_ix : OpD c (rIxA c.K) kIx := fun G H Q P x y dx dy g hx hy h q qn => by
  cases dx <;> cases dy <;> first | exact h.elim | skip
  · rename_i xs i
    obtain ⟨l, vs, rfl, _, h2, al⟩ := hx.tup g
    dsimp only [kIx] at h
    cases e : atI xs i with
    | none => rw [e] at h; exact h.elim
    | some d =>
      rw [e] at h
      obtain ⟨v, h3, h4⟩ := al.at e
      exact .inr ⟨l, vs, i, v, rfl, hy.int, h2, h3, q _ _ h h4⟩
  · rename_i xs i
    obtain ⟨l, vs, rfl, h2, al⟩ := hx.lst g
    dsimp only [kIx] at h
    cases e : atI xs i with
    | none => rw [e] at h; exact h.elim
    | some d =>
      rw [e] at h
      obtain ⟨v, h3, h4⟩ := al.at e
      exact .inl ⟨l, vs, i, v, rfl, hy.int, .of h2, h3, q _ _ h h4⟩
theorem pd_ix (h : PD2 X c a b ta tb w2) (hs : PlainIx b := by exact fun _ _ => rfl) (hK : X.K = c.K := by rfl) : PDE X c (.Subscript a b pos) (tOp (rIxA c.K) ta tb) (wOp w2 kIx) := by
 rw [← hK]
 exact ⟨pe_ix ix_A h.pa h.pb hs, by rw [hK]; exact de_op opd_ix h.d⟩
/-! ### slices -/
abbrev WO := Rho → (Option Int → Rho → Prop) → Prop
def DTO (c : Cq) (t : TO) (w : WO) : Prop := ∀ σ ρ G H (Q : Option Int → Hp → Prop) (P : Option Int → Rho → Prop), StOk c σ ρ G H → w ρ P →
  (∀ b ρ' G' H', P b ρ' → StOk c σ ρ' G' H' → Step σ ρ ρ' G H G' H' → Q b H') → t σ H Q
structure PDO (X : Cx) (c : Cq) (e : Option Expr) (t : TO) (w : WO) : Prop where
  p : PO X e t
  d : DTO c t w
@[simp] def woNo : WO := fun ρ P => P none ρ
@[simp] def woSo (w : WE) : WO := fun ρ P => w ρ fun d ρ1 => match d with
  | .int i => P (some i) ρ1
  | _ => False
theorem pdo_none : PDO X c none tNoPart woNo := ⟨po_none, fun σ ρ G H Q P S hw k => k none ρ G H hw S .refl⟩
theorem pdo_some (h : PDE X c e te we) : PDO X c (some e) (tPart te) (woSo we) := ⟨po_some h.p, fun σ ρ G H Q P S hw k => h.d σ ρ G H _ _ S hw fun v d ρ1 G1 H1 p1 S1 g1 i1 => by
  cases d <;> first | exact p1.elim | skip
  cases i1
  exact ⟨_, rfl, k _ ρ1 G1 H1 p1 S1 g1⟩⟩
def cut {α : Type} (xs : List α) (lo hi : Option Int) : List α := (xs.drop (HT.sIx xs.length 0 lo)).take (HT.sIx xs.length xs.length hi - HT.sIx xs.length 0 lo)
theorem All.drop {K : PySem.W.Frag} {G : Hp} {xs : List D} {vs : List V} (al : All K G xs vs) (n : Nat) : All K G (xs.drop n) (vs.drop n) :=
  ⟨by simp [al.1], fun i d v h1 h2 => al.2 (n + i) d v (by rw [List.getElem?_drop] at h1; exact h1) (by rw [List.getElem?_drop] at h2; exact h2)⟩
theorem All.take {K : PySem.W.Frag} {G : Hp} {xs : List D} {vs : List V} (al : All K G xs vs) (n : Nat) : All K G (xs.take n) (vs.take n) :=
  ⟨by simp [al.1], fun i d v h1 h2 => by
    rw [List.getElem?_take] at h1 h2
    split at h1
    · rename_i hi
      rw [if_pos hi] at h2
      exact al.2 i d v h1 h2
    · cases h1⟩
theorem All.cut {K : PySem.W.Frag} {G : Hp} {xs : List D} {vs : List V} (al : All K G xs vs) (lo hi : Option Int) : All K G (cut xs lo hi) (cutV vs lo hi) := by
  unfold DL.cut L2.cutV
  rw [al.1]
  exact (al.drop _).take _
@[simp] def kSl : D → Option Int → Option Int → (D → Prop) → Prop
  | .lst xs, lo, hi, P => P (.lst (cut xs lo hi))
  | .tup xs, lo, hi, P => P (.tup (cut xs lo hi))
  | .str z, lo, hi, P => z.length ≤ sizeLine ∧ P (.str (Txt.slice z lo hi))
  | .scr ns, lo, hi, P => P (.lst ((cut ns lo hi).map .int))
  | _, _, _, _ => False
def rSlX3 (K : PySem.W.Frag) : V → Option Int → Option Int → Hp → VK → Prop := fun x lo hi H Q => rSlL K x lo hi H Q ∨ (fun x lo hi H Q => rSlA K x lo hi H Q ∨ C8.rSlX x lo hi H Q) x lo hi H Q
theorem sl_A : SlR X (rSlX3 X.K) := SlR.or sl_list (SlR.or sl_tupA C8.sl_txt)
theorem sl_use {σ : L2.St} {ρ : Rho} {G H : Hp} {Q : VK} {P : D → Prop} {x : V} {dx : D} {lo hi : Option Int} (S : StOk c σ ρ G H) (hx : Rv c.K G H dx x) (h : kSl dx lo hi P)
    (q : ∀ v d, P d → Is c.K G d v → Q v H) (qn : ∀ p o d, H p = none → P d → Is c.K (upd G p o) d (.ref p) → Q (.ref p) (upd H p o)) : rSlX3 c.K x lo hi H Q := by
  cases dx <;> first | exact h.elim | skip
  · cases hx.str
    exact .inr (.inr ⟨_, rfl, h.1, q _ _ h.2 (.str _)⟩)
  · obtain ⟨l, vs, rfl, h1, h2, al⟩ := hx.tup S.gh
    rename_i xs
    refine .inr (.inl ⟨l, vs, rfl, h2, fun hw => q _ _ h ?_, fun _ m hm => qn m _ _ hm h (.tup (.of upd_same) (al.cut lo hi).1 ((al.cut lo hi).mono (same_new (S.free hm))).2)⟩)
    have e : DL.cut xs lo hi = xs := by
      unfold DL.cut
      rw [← al.1, hw.1, hw.2, List.drop_zero, Nat.sub_zero, al.1, List.take_length]
    rw [e]
    exact .tup h1 al.1 al.2
  · obtain ⟨l, vs, rfl, h2, al⟩ := hx.lst S.gh
    exact .inl ⟨l, vs, rfl, .of h2, fun m hm => qn m _ _ hm h (.lst upd_same (al.cut lo hi).1 ((al.cut lo hi).mono (same_new (S.free hm))).2)⟩
  · rename_i ns
    have al : All c.K G (ns.map D.int) (ns.map V.int) := All.of_ints ns
    have h2 : ∃ a, x = .ref a ∧ SqL c.K H a (ns.map V.int) := by
      cases hx with
      | is h => cases h with | scr h => exact ⟨_, rfl, seqL_mono S.gh h⟩
    obtain ⟨a, rfl, h2⟩ := h2
    have ec : DL.cut (ns.map D.int) lo hi = (DL.cut ns lo hi).map D.int := by
      unfold DL.cut
      rw [List.length_map, List.map_take, List.map_drop]
    have ac := al.cut lo hi
    rw [ec] at ac
    exact .inl ⟨a, _, rfl, h2, fun m hm => qn m _ _ hm h (.lst upd_same ac.1 (ac.mono (same_new (S.free hm))).2)⟩
variable {lo hi : Option Expr} {tl th : TO} {wl wh : WO} {p2 : Pos}
@[simp] def wSl (wa : WE) (wl wh : WO) : WE := fun ρ P => wa ρ fun x ρ1 => wl ρ1 fun l ρ2 => wh ρ2 fun u ρ3 => kSl x l u fun z => P z ρ3
def wSlO (i : Nat) (wl wh : WO) : WE := fun ρ P => wOwn i ρ fun _ _ => wl ρ fun l ρ2 => wh ρ2 fun u ρ3 => wOwn i ρ3 fun x ρ4 => kSl x l u fun z => P z ρ4
theorem pd_sl (h : PDE X c e te we) (hl : PDO X c lo tl wl) (hh : PDO X c hi th wh) (hK : X.K = c.K := by rfl) : PDE X c (.Subscript e (.Slice lo hi none p2) pos) (tSl (rSlX3 c.K) te tl th) (wSl we wl wh) := by
 rw [← hK]
 exact ⟨pe_slice sl_A h.p hl.p hh.p, fun σ ρ G H Q P S hw k => by
  rw [hK]
  exact h.d σ ρ G H _ _ S hw fun x dx ρ1 G1 H1 p1 S1 g1 i1 => hl.d σ ρ1 G1 H1 _ _ S1 p1 fun l ρ2 G2 H2 p2 S2 g2 => hh.d σ ρ2 G2 H2 _ _ S2 p2 fun u ρ3 G3 H3 p3 S3 g3 =>
    sl_use S3 (.is (i1.mono (g2.trans g3).g)) p3 (fun v d pd i => k v d ρ3 G3 H3 pd S3 ((g1.trans g2).trans g3) i) fun m o d hm pd i => k _ d ρ3 _ _ pd (S3.new hm) (((g1.trans g2).trans g3).trans (.new (S3.free hm) hm)) i⟩
theorem pd_slO (i : Nat) {px : Pos} (hl : PDO X c lo tl wl) (hh : PDO X c hi th wh) (hN : X.N[i]? = some x := by rfl) (hv : Vis X.env.scope x := by first | exact Or.inl rfl | exact Or.inr (Or.inl rfl) | exact Or.inr (Or.inr rfl)) (hd : (x == ("__debug__" : Str)) = false := by decide)
    (hcd : (x == ("__classdict__" : Str)) = false := by decide) (hK : X.K = c.K := by rfl) : PDE X c (.Subscript (.Name x px) (.Slice lo hi none p2) pos) (tSl (rSlX3 c.K) (tVar i) tl th) (wSlO i wl wh) := by
 rw [← hK]
 exact ⟨pe_slice sl_A (pv i hN hv hd hcd) hl.p hh.p, fun σ ρ G H Q P S hw k => by
  rw [hK]
  obtain ⟨xs, e, p⟩ := wOwn_of hw
  obtain ⟨l0, vs, h1, _⟩ := own_at S e
  refine ⟨_, h1, hl.d σ ρ G H _ _ S p fun l ρ2 G2 H2 p2 S2 g2 => hh.d σ ρ2 G2 H2 _ _ S2 p2 fun u ρ3 G3 H3 p3 S3 g3 => ?_⟩
  obtain ⟨xs', e', p'⟩ := wOwn_of p3
  obtain ⟨l', vs', h1', h2, h3, h4, _⟩ := own_at S3 e'
  rw [h1] at h1'
  cases h1'
  exact sl_use S3 (.ow h2 h4) p' (fun v d pd i => k v d ρ3 G3 H3 pd S3 (g2.trans g3) i) fun m o d hm pd i => k _ d ρ3 _ _ pd (S3.new hm) ((g2.trans g3).trans (.new (S3.free hm) hm)) i⟩
/-- xs[::-1] of a list -/
@[simp] def wRev (w : WE) : WE := fun ρ P => w ρ fun x ρ1 => match x with
  | .lst xs => P (.lst xs.reverse) ρ1
  | _ => False
theorem All.reverse {K : PySem.W.Frag} {G : Hp} {xs : List D} {vs : List V} (al : All K G xs vs) : All K G xs.reverse vs.reverse := by
  induction xs generalizing vs with
  | nil => rw [al.unnil]; exact .nil
  | cons x xs ih =>
    obtain ⟨v, us, rfl, h1, h2⟩ := al.uncons
    rw [List.reverse_cons, List.reverse_cons]
    exact (ih h2).append (.cons h1 .nil)
theorem pd_rev {k : Nat} {p1 p2 p3 : Pos} (h : PDE X c e te we) (hK : X.K = c.K := by rfl) : PDE X c (.Subscript e (.Slice none none (some (.UnaryOp .USub (.Constant (.int 1) k p1) p2)) p3) pos) (tRevL c.K te) (wRev we) := by
 rw [← hK]
 exact ⟨pe_revL h.p, fun σ ρ G H Q P S hw q => h.d σ ρ G H _ _ S hw fun x dx ρ1 G1 H1 p1 S1 g1 i1 => by
  cases dx <;> first | exact p1.elim | skip
  cases i1 with
  | lst h1 h2 h3 =>
    refine ⟨_, _, rfl, .of (S1.gh _ _ h1), fun m hm => q _ _ ρ1 _ _ p1 (S1.new hm) (g1.trans (.new (S1.free hm) hm)) ?_⟩
    have al : All c.K G1 _ _ := All.reverse ⟨h2, h3⟩
    exact .lst upd_same al.1 (al.mono (same_new (S1.free hm))).2⟩
/-! ### an own list is changed -/
theorem StOk.put {σ : L2.St} {ρ : Rho} {G H : Hp} {i : Nat} {xs ys : List D} {l : Addr} {vs us : List V} (S : StOk c σ ρ G H) (e : ρ[i]? = some (some (.ow xs))) (hs : σ[i]? = some (some (.ref l))) (hl : H l = some (.lst vs)) (hg : G l = none) (hf : c.E0 l = none) (al : All c.K G ys us) :
    StOk c σ (ρ.set i (some (.ow ys))) G (upd H l (.lst us)) where
  gg := S.gg
  gh := fun b u h => by
    rw [upd_ne (ne_of_none h hg)]
    exact S.gh b u h
  eh := fun b u h m => by
    have hb : b ≠ l := fun z => by
      subst z
      rw [hf] at h; cases h
    rw [upd_ne hb]
    exact S.eh b u h m
  mh := fun b m => by
    by_cases hb : b = l
    · subst hb; exact ⟨_, upd_same⟩
    · rw [upd_ne hb]; exact S.mh b m
  nw := S.nw
  len := by simp [S.len]
  sl := fun j s h => by
    rw [List.getElem?_set] at h
    by_cases hij : i = j
    · subst hij
      rw [if_pos rfl] at h
      split at h
      · cases h
        exact ⟨_, hs, ⟨l, us, rfl, upd_same, hg, al⟩, fun l' _ z => by cases z; exact .inl hf⟩
      · cases h
    · rw [if_neg hij] at h
      obtain ⟨v, h1, h2, h3⟩ := S.sl j s h
      refine ⟨v, h1, h2.mono (Same.refl _) fun l' ho hv => ?_, h3⟩
      subst hv
      obtain ⟨l2, u, q1, q2, q3⟩ := Sl.ow_ref h2 ho
      cases q1
      have hne : l' ≠ l := fun z => by
        subst z
        exact S.dj i j _ s hij e h rfl ho l' hs h1
      exact ⟨upd_ne hne, q3⟩
  mo := fun j s h m l' hl p hp => by
    rw [List.getElem?_set] at h
    by_cases hij : i = j
    · subst hij
      rw [if_pos rfl] at h
      split at h
      · cases h; cases m
      · cases h
    · rw [if_neg hij] at h
      exact S.mo j s h m l' hl p hp
  dj := fun j k s s' hjk e1 e2 o1 o2 l' h1 h2 => by
    have back : ∀ (j : Nat) (s : Sl), (ρ.set i (some (.ow ys)))[j]? = some (some s) → s.isOw = true → ∃ s0, ρ[j]? = some (some s0) ∧ s0.isOw = true := fun j s h o => by
      rw [List.getElem?_set] at h
      by_cases hij : i = j
      · subst hij
        exact ⟨_, e, rfl⟩
      · rw [if_neg hij] at h
        exact ⟨s, h, o⟩
    obtain ⟨s1, q1, q2⟩ := back j s e1 o1
    obtain ⟨s2, q3, q4⟩ := back k s' e2 o2
    exact S.dj j k s1 s2 hjk q1 q3 q2 q4 l' h1 h2
theorem Step.put {σ : L2.St} {ρ : Rho} {G H : Hp} {i : Nat} {xs ys : List D} {l : Addr} {u : HO} (e : ρ[i]? = some (some (.ow xs))) (hs : σ[i]? = some (some (.ref l))) (hl : ∃ o, H l = some o) : Step σ ρ (ρ.set i (some (.ow ys))) G H G (upd H l u) where
  g := Same.refl _
  h := fun b o h n => by
    rw [upd_ne (fun z => by subst z; exact n i _ e rfl hs)]
    exact h
  n := fun b o h _ => .inl h
  d := fun b h => by
    by_cases hb : b = l
    · subst hb; rw [upd_same] at h; cases h
    · rw [upd_ne hb] at h; exact h
  o := fun b n j s h o => by
    rw [List.getElem?_set] at h
    by_cases hij : i = j
    · subst hij
      exact n i _ e rfl
    · rw [if_neg hij] at h
      exact n j s h o
theorem All.snoc {K : PySem.W.Frag} {G : Hp} {xs : List D} {vs : List V} {d : D} {v : V} (al : All K G xs vs) (h : Is K G d v) : All K G (xs ++ [d]) (vs ++ [v]) := al.append (.cons h .nil)
theorem All.erase {K : PySem.W.Frag} {G : Hp} {xs : List D} {vs : List V} (al : All K G xs vs) (n : Nat) : All K G (xs.eraseIdx n) (vs.eraseIdx n) := by
  induction xs generalizing vs n with
  | nil => rw [al.unnil]; exact .nil
  | cons x xs ih =>
    obtain ⟨v, us, rfl, h1, h2⟩ := al.uncons
    cases n with
    | zero => exact h2
    | succ n => exact .cons h1 (ih h2 n)
theorem own_ty {K : PySem.W.Frag} {H : Hp} {l : Addr} {vs : List V} (h : H l = some (.lst vs)) : tyV K "list" (.ref l) H := .inl ⟨rfl, vs, .of h⟩
/-- xs.append(e) -/
@[simp] def wApp (i : Nat) (w : WE) : WS := fun ρ O => wOwn i ρ fun _ _ => w ρ fun d ρ1 => match Rho.g ρ1 i with
  | some (.ow xs) => xs.length < sizeLine ∧ O.nx (Rho.s ρ1 i (some (.ow (xs ++ [d]))))
  | _ => False
theorem own_g {ρ : Rho} {i : Nat} {C : List D → Prop} (h : match Rho.g ρ i with | some (.ow xs) => C xs | _ => False) : ∃ xs, ρ[i]? = some (some (.ow xs)) ∧ C xs := by
  cases e : Rho.g ρ i with
  | none => rw [e] at h; exact h.elim
  | some s =>
    rw [e] at h
    cases s with
    | ow xs => exact ⟨xs, Rho.g_eq ρ i e, h⟩
    | sh d => exact h.elim
    | pn n => exact h.elim
    | dk kvs => exact h.elim
    | me C nm xs => exact h.elim
theorem ds_app {i : Nat} {K : PySem.W.Frag} (h : DE c te we) : DS c (tDrop (tBM K "list" rAppend (tVar i) (tCons te tNil))) (wApp i we) := fun σ ρ G H D O S hw k _ _ _ => by
  obtain ⟨xs, e, p⟩ := wOwn_of hw
  obtain ⟨l0, vs, h1, h2, _⟩ := own_at S e
  refine ⟨_, h1, own_ty h2, h σ ρ G H _ _ S p fun v d ρ1 G1 H1 p1 S1 g1 i1 => ?_⟩
  obtain ⟨ys, e', p'⟩ := own_g p1
  obtain ⟨l', us, h1', h2', h3, h4, h5⟩ := own_at S1 e'
  rw [h1] at h1'
  cases h1'
  refine ⟨l0, us, v, rfl, rfl, h2', by rw [h4.1]; exact p'.1, k σ _ G1 _ ?_ (S1.put e' h1 h2' h3 h5 (h4.snoc i1)) g1.g⟩
  rw [← Rho.s_eq]
  exact p'.2
variable {xp apos cpos : Pos}
theorem pd_app (i : Nat) (h : PDE X c e te we) (hN : X.N[i]? = some x := by rfl) (hv : Vis X.env.scope x := by first | exact Or.inl rfl | exact Or.inr (Or.inl rfl) | exact Or.inr (Or.inr rfl)) (hd : (x == ("__debug__" : Str)) = false := by decide)
    (hcd : (x == ("__classdict__" : Str)) = false := by decide) (hline : (apos.endLine == cpos.line) = true := by rfl) (hs : starEach [e] X.env = (false, eval e X.env) :: starEach [] X.env := by rfl)
    (hfew : ((backTo cpos (starEach [e] X.env)).all (fun x => !x.1) && (backToKw cpos (keywordEach [] X.env)).all (fun x => x.1.isSome)
      && decide ([e].length + ([] : List Keyword).length + (if ([] : List Keyword).isEmpty then 0 else 1) < 30)) = true := by rfl)
    (hsw : swapsWith (.Call (.Attribute (.Name x xp) "append" apos) [e] [] cpos) none pos.line X.env = pure false := by rfl) (hK : X.K = c.K := by rfl) : PDS X c (.Expr (.Call (.Attribute (.Name x xp) "append" apos) [e] [] cpos) pos) (tDrop (tBM c.K "list" rAppend (tVar i) (tCons te tNil))) (wApp i we) := by
 rw [← hK]
 exact ⟨ps_expr (pe_bm PySem.F.plainAttrs_list PySem.F.slot_list_append PySem.F.type_list_append mt_append (pv i hN hv hd hcd) (pa_cons h.p pa_nil hs) rfl hfew hline hs rfl) hsw, ds_app h.d⟩
/-- xs[i] = e -/
@[simp] def wSetIx (i : Nat) (w wi : WE) : WS := fun ρ O => w ρ fun d ρ1 => wOwn i ρ1 fun _ _ => wi ρ1 fun k ρ2 => match Rho.g ρ2 i with
  | some (.ow xs) => match k with
    | .int k => match ixN xs.length k with
      | some j => O.nx (Rho.s ρ2 i (some (.ow (xs.set j d))))
      | none => False
    | _ => False
  | _ => False
theorem ds_setIx {i : Nat} (h : DE c te we) (hi : DE c ta wa) : DS c (tAsg te (gSub (tVar i) ta rSetL)) (wSetIx i we wa) := fun σ ρ G H D O S hw k _ _ _ => h σ ρ G H _ _ S hw fun v d ρ1 G1 H1 p1 S1 g1 i1 => by
  obtain ⟨xs, e, p⟩ := wOwn_of p1
  obtain ⟨l0, vs, h1, h2, _⟩ := own_at S1 e
  refine ⟨_, h1, hi σ ρ1 G1 H1 _ _ S1 p fun iv di ρ2 G2 H2 p2 S2 g2 i2 => ?_⟩
  obtain ⟨ys, e', p'⟩ := own_g p2
  obtain ⟨l', us, h1', h2', h3, h4, h5⟩ := own_at S2 e'
  rw [h1] at h1'
  cases h1'
  cases di <;> first | exact p'.elim | skip
  rename_i n
  cases i2
  dsimp only at p'
  cases ej : ixN ys.length n with
  | none => rw [ej] at p'; exact p'.elim
  | some j =>
    rw [ej] at p'
    refine ⟨l0, us, n, j, rfl, rfl, h2', by rw [h4.1]; exact ej, k σ _ G2 _ ?_ (S2.put e' h1 h2' h3 h5 (h4.set j (i1.mono g2.g))) (g1.g.trans g2.g)⟩
    rw [← Rho.s_eq]
    exact p'
theorem pd_setIx (i : Nat) {px tpos : Pos} (h : PDE X c e te we) (hi : PDE X c a ta wa) (hN : X.N[i]? = some x := by rfl) (hv : Vis X.env.scope x := by first | exact Or.inl rfl | exact Or.inr (Or.inl rfl) | exact Or.inr (Or.inr rfl)) (hd : (x == ("__debug__" : Str)) = false := by decide)
    (hcd : (x == ("__classdict__" : Str)) = false := by decide)
    (ha : ∀ v, assign (.Subscript (.Name x px) a tpos) X.env v = (do
      let ov ← holding [v] (eval (.Name x px) X.env)
      let iv ← holding [v, ov] (eval a X.env)
      standAt tpos
      holding [v, ov, iv] (setItem ov iv v)
      release [v, ov, iv] []) := by intro _; rfl)
    (hs : swapsWithSole [.Subscript (.Name x px) a tpos] e pos.line X.env = pure false := by rfl) (hw : swappedStores [.Subscript (.Name x px) a tpos] e X.env = pure none := by rfl)
    (h1 : (assignEach [.Subscript (.Name x px) a tpos] X.env).map (·.2) = [assign (.Subscript (.Name x px) a tpos) X.env] := by rfl) :
    PDS X c (.Assign [.Subscript (.Name x px) a tpos] e pos) (tAsg te (gSub (tVar i) ta rSetL)) (wSetIx i we wa) := ⟨ps_asg h.p (pg_sub (pv i hN hv hd hcd) hi.p set_list ha) hs hw h1, ds_setIx h.d hi.d⟩
/-- xs.pop(k) -/
@[simp] def wPop (i : Nat) (w : WE) : WE := fun ρ P => wOwn i ρ fun _ _ => w ρ fun k ρ1 => match Rho.g ρ1 i with
  | some (.ow xs) => match k with
    | .int k => 0 ≤ k ∧ k < 2 ^ 63 ∧ match xs[k.toNat]? with
      | some y => P y (Rho.s ρ1 i (some (.ow (xs.eraseIdx k.toNat))))
      | none => False
    | _ => False
  | _ => False
theorem seqIx_nat {n k : Nat} (h : k < n) : seqIndex? (k : Int) n = some k := by
  have := (ixN_seq (n := n) (i := (k : Int)) (j := k) (by unfold ixN; rw [if_pos (by omega), if_pos (by omega)]; simp)).1
  exact this
theorem de_pop {i : Nat} {K : PySem.W.Frag} (h : DE c te we) : DE c (tBM K "list" rPopAt (tVar i) (tCons te tNil)) (wPop i we) := fun σ ρ G H Q P S hw k => by
  obtain ⟨xs, e, p⟩ := wOwn_of hw
  obtain ⟨l0, vs, h1, h2, _⟩ := own_at S e
  refine ⟨_, h1, own_ty h2, h σ ρ G H _ _ S p fun v d ρ1 G1 H1 p1 S1 g1 i1 => ?_⟩
  obtain ⟨ys, e', p'⟩ := own_g p1
  obtain ⟨l', us, h1', h2', h3, h4, h5⟩ := own_at S1 e'
  rw [h1] at h1'
  cases h1'
  cases d <;> first | exact p'.elim | skip
  rename_i n
  cases i1
  dsimp only at p'
  obtain ⟨b1, b2, p'⟩ := p'
  cases ej : ys[n.toNat]? with
  | none => rw [ej] at p'; exact p'.elim
  | some y =>
    rw [ej] at p'
    obtain ⟨z, q1, q2⟩ := h4.get ej
    have hlt : n.toNat < us.length := (List.getElem?_eq_some_iff.mp q1).1
    refine ⟨l0, us, n, n.toNat, z, rfl, rfl, h2', by omega, b2, ?_, q1, k z y _ G1 _ ?_ (S1.put e' h1 h2' h3 h5 (h4.erase n.toNat)) (g1.trans (.put e' h1 ⟨_, h2'⟩)) q2⟩
    · have := seqIx_nat hlt
      rwa [show ((n.toNat : Nat) : Int) = n by omega] at this
    · rw [← Rho.s_eq]
      exact p'
theorem pd_pop (i : Nat) (h : PDE X c e te we) (hN : X.N[i]? = some x := by rfl) (hv : Vis X.env.scope x := by first | exact Or.inl rfl | exact Or.inr (Or.inl rfl) | exact Or.inr (Or.inr rfl)) (hd : (x == ("__debug__" : Str)) = false := by decide)
    (hcd : (x == ("__classdict__" : Str)) = false := by decide) (hline : (apos.endLine == cpos.line) = true := by rfl) (hs : starEach [e] X.env = (false, eval e X.env) :: starEach [] X.env := by rfl)
    (hfew : ((backTo cpos (starEach [e] X.env)).all (fun x => !x.1) && (backToKw cpos (keywordEach [] X.env)).all (fun x => x.1.isSome)
      && decide ([e].length + ([] : List Keyword).length + (if ([] : List Keyword).isEmpty then 0 else 1) < 30)) = true := by rfl) (hK : X.K = c.K := by rfl) : PDE X c (.Call (.Attribute (.Name x xp) "pop" apos) [e] [] cpos) (tBM c.K "list" rPopAt (tVar i) (tCons te tNil)) (wPop i we) := by
 rw [← hK]
 exact ⟨pe_bm PySem.F.plainAttrs_list PySem.F.slot_list_pop PySem.F.type_list_pop mt_popAt (pv i hN hv hd hcd) (pa_cons h.p pa_nil hs) rfl hfew hline hs rfl, de_pop h.d⟩
/-- xs.insert(k, e) -/
def rIns : V → List V → Hp → VK → Prop := fun x vs H Q => ∃ (l : Addr) (xs : List V) (i : Int) (y : V), x = .ref l ∧ vs = [.int i, y] ∧ H l = some (.lst xs) ∧ xs.length < sizeLine ∧ 0 ≤ i ∧ i < 2 ^ 63 ∧
    Q .non (upd H l (.lst (xs.take i.toNat ++ [y] ++ xs.drop i.toNat)))
@[simp] def wInsert (i : Nat) (wk w : WE) : WS := fun ρ O => wOwn i ρ fun _ _ => wk ρ fun k ρ0 => w ρ0 fun d ρ1 => match Rho.g ρ1 i with
  | some (.ow xs) => match k with
    | .int k => xs.length < sizeLine ∧ 0 ≤ k ∧ k < 2 ^ 63 ∧ O.nx (Rho.s ρ1 i (some (.ow (xs.take k.toNat ++ [d] ++ xs.drop k.toNat))))
    | _ => False
  | _ => False
theorem ds_insert {i : Nat} {K : PySem.W.Frag} (hk : DE c ta wa) (h : DE c te we) : DS c (tDrop (tBM K "list" rIns (tVar i) (tCons ta (tCons te tNil)))) (wInsert i wa we) := fun σ ρ G H D O S hw k _ _ _ => by
  obtain ⟨xs, e, p⟩ := wOwn_of hw
  obtain ⟨l0, vs, h1, h2, _⟩ := own_at S e
  refine ⟨_, h1, own_ty h2, hk σ ρ G H _ _ S p fun kv kd ρ0 G0 H0 p0 S0 g0 i0 => h σ ρ0 G0 H0 _ _ S0 p0 fun v d ρ1 G1 H1 p1 S1 g1 i1 => ?_⟩
  obtain ⟨ys, e', p'⟩ := own_g p1
  obtain ⟨l', us, h1', h2', h3, h4, h5⟩ := own_at S1 e'
  rw [h1] at h1'
  cases h1'
  cases kd <;> first | exact p'.elim | skip
  rename_i n
  cases i0
  refine ⟨l0, us, n, v, rfl, rfl, h2', by rw [h4.1]; exact p'.1, p'.2.1, p'.2.2.1, k σ _ G1 _ ?_ (S1.put e' h1 h2' h3 h5 (((h4.take _).append (.cons i1 .nil)).append (h4.drop _))) (g0.g.trans g1.g)⟩
  rw [← Rho.s_eq]
  exact p'.2.2.2
theorem pd_insert (i : Nat) (hk : PDE X c a ta wa) (h : PDE X c e te we) (hN : X.N[i]? = some x := by rfl) (hv : Vis X.env.scope x := by first | exact Or.inl rfl | exact Or.inr (Or.inl rfl) | exact Or.inr (Or.inr rfl)) (hd : (x == ("__debug__" : Str)) = false := by decide)
    (hcd : (x == ("__classdict__" : Str)) = false := by decide) (hline : (apos.endLine == cpos.line) = true := by rfl) (hs : starEach [a, e] X.env = (false, eval a X.env) :: starEach [e] X.env := by rfl) (hs2 : starEach [e] X.env = (false, eval e X.env) :: starEach [] X.env := by rfl)
    (hfew : ((backTo cpos (starEach [a, e] X.env)).all (fun x => !x.1) && (backToKw cpos (keywordEach [] X.env)).all (fun x => x.1.isSome)
      && decide ([a, e].length + ([] : List Keyword).length + (if ([] : List Keyword).isEmpty then 0 else 1) < 30)) = true := by rfl) (hpl : (backTo cpos (starEach [e] X.env)).any (·.1) = false := by rfl)
    (hsw : swapsWith (.Call (.Attribute (.Name x xp) "insert" apos) [a, e] [] cpos) none pos.line X.env = pure false := by rfl) (hK : X.K = c.K := by rfl) : PDS X c (.Expr (.Call (.Attribute (.Name x xp) "insert" apos) [a, e] [] cpos) pos) (tDrop (tBM c.K "list" rIns (tVar i) (tCons ta (tCons te tNil)))) (wInsert i wa we) := by
 rw [← hK]
 exact ⟨ps_expr (pe_bm PySem.F.plainAttrs_list PySem.F.slot_list_insert PySem.F.type_list_insert mt_insert (pv i hN hv hd hcd) (pa_cons hk.p (pa_cons h.p pa_nil hs2) hs) rfl hfew hline hs hpl) hsw, ds_insert hk.d h.d⟩
end
end DL
end

section
set_option maxRecDepth 100000
set_option maxHeartbeats 1000000
namespace DL
open PySem PySem.Spec PyProof.Rows L2
section
variable {c : Cq} {X : Cx} {a b e : Expr} {es : List Expr} {ta tb te tx ty tz : TE} {ts : TA} {wa wb we : WE} {ws : WA} {w2 : W2} {wx wy wz : WX} {p pos : Pos} {x y z : Str}
/-! ### attributes -/
theorem lookup_ix : ∀ {fs : List (Str × V)} {nm : List Str} {i : Nat} {f : Str} {q : Str × V}, fs.map (·.1) = nm → nm.Nodup → nm[i]? = some f → fs[i]? = some q → fs.lookup f = some q.2 := by
  intro fs
  induction fs with
  | nil => intro nm i f q _ _ _ h; simp at h
  | cons g fs ih =>
    intro nm i f q hn hd hf hq
    obtain ⟨g1, g2⟩ := g
    subst hn
    rw [List.map_cons, List.nodup_cons] at hd
    cases i with
    | zero =>
      simp only [List.map_cons, List.getElem?_cons_zero, Option.some.injEq] at hf hq
      subst hf; subst hq
      rw [List.lookup_cons, beq_self_eq_true]
    | succ i =>
      simp only [List.map_cons, List.getElem?_cons_succ] at hf hq
      have hne : (f == g1) = false := by
        cases h : (f == g1) with
        | false => rfl
        | true =>
          exfalso
          have : f = g1 := eq_of_beq h
          subst this
          exact hd.1 (List.mem_of_getElem? hf)
      rw [List.lookup_cons, hne]
      exact ih rfl hd.2 hf hq
/-- o.f, o an instance of the class at C with the fields nm -/
@[simp] def wFld (C : Addr) (nm : List Str) (i : Nat) (w : WE) : WE := fun ρ P => w ρ fun x ρ1 => match x with
  | .ins C' nm' xs => C' = C ∧ nm' = nm ∧ match xs[i]? with
    | some d => P d ρ1
    | none => False
  | _ => False
theorem pd_fld {C : Addr} {nm : List Str} (i : Nat) (hC : Cls X.K C) (hn : NoAttr X.K C x) (hx : nm[i]? = some x) (hd : nm.Nodup) (h : PDE X c e te we) (hb : attributeBase e x X.env (eval e X.env) = eval e X.env := by rfl) (hK : X.K = c.K := by rfl) : PDE X c (.Attribute e x pos) (tFld c.K te x) (wFld C nm i we) := by
 rw [← hK]
 exact ⟨pe_fld h.p hb, fun σ ρ G H Q P S hw k => h.d σ ρ G H _ _ S hw fun v d ρ1 G1 H1 p1 S1 g1 i1 => by
  cases d <;> first | exact p1.elim | skip
  rename_i C' nm' xs
  obtain ⟨rfl, rfl, p1⟩ := p1
  cases e : xs[i]? with
  | none => rw [e] at p1; exact p1.elim
  | some d =>
    rw [e] at p1
    cases i1 with
    | @ins a _ dx _ fs _ h1 h2 h3 h4 =>
      have hi : i < fs.length := by rw [h3]; exact (List.getElem?_eq_some_iff.mp e).1
      have hf : fs[i]? = some fs[i] := List.getElem?_eq_getElem hi
      exact ⟨_, C', dx, fs, _, rfl, S1.gh _ _ h1, hC, hn, lookup_ix h2 hd hx hf, k _ d ρ1 G1 H1 p1 S1 g1 (h4 i d _ e hf)⟩⟩
/-- self.f, self the object that is being made -/
@[simp] def wMeF (i : Nat) (C : Addr) (nm : List Str) (j : Nat) : WE := fun ρ P => match Rho.g ρ i with
  | some (.me C' nm' xs) => C' = C ∧ nm' = nm ∧ match xs[j]? with
    | some d => P d ρ
    | none => False
  | _ => False
theorem wMe_of {i : Nat} {ρ : Rho} {f : Addr → List Str → List D → Prop} (h : match Rho.g ρ i with | some (.me C nm xs) => f C nm xs | _ => False) : ∃ C nm xs, ρ[i]? = some (some (.me C nm xs)) ∧ f C nm xs := by
  cases e : Rho.g ρ i with
  | none => rw [e] at h; exact h.elim
  | some s =>
    rw [e] at h
    cases s with
    | me C nm xs => exact ⟨C, nm, xs, Rho.g_eq ρ i e, h⟩
    | sh d => exact h.elim
    | pn n => exact h.elim
    | dk kvs => exact h.elim
    | ow xs => exact h.elim
theorem pd_meF (i : Nat) {C : Addr} {nm : List Str} (j : Nat) {px : Pos} (hC : Cls X.K C) (hn : NoAttr X.K C x) (hx : nm[j]? = some x) (hd : nm.Nodup) (hN : X.N[i]? = some y := by rfl) (hv : Vis X.env.scope y := by first | exact Or.inl rfl | exact Or.inr (Or.inl rfl) | exact Or.inr (Or.inr rfl)) (hdb : (y == ("__debug__" : Str)) = false := by decide)
    (hcd : (y == ("__classdict__" : Str)) = false := by decide) (hb : attributeBase (.Name y px) x X.env (eval (.Name y px) X.env) = eval (.Name y px) X.env := by rfl) (hK : X.K = c.K := by rfl) : PDE X c (.Attribute (.Name y px) x pos) (tFld c.K (tVar i) x) (wMeF i C nm j) := by
 rw [← hK]
 exact ⟨pe_fld (pv i hN hv hdb hcd) hb, fun σ ρ G H Q P S hw k => by
  obtain ⟨C', nm', xs, e, rfl, rfl, p⟩ := wMe_of (f := fun C' nm' xs => C' = C ∧ nm' = nm ∧ match xs[j]? with | some d => P d ρ | none => False) hw
  obtain ⟨v, h1, ⟨a, dx, fs, rfl, h2, h3, h4, h5⟩, _⟩ := S.sl i _ e
  cases ej : xs[j]? with
  | none => rw [ej] at p; exact p.elim
  | some d =>
    rw [ej] at p
    obtain ⟨v, q1, q2⟩ := h5.get ej
    rw [List.getElem?_map] at q1
    cases ef : fs[j]? with
    | none => rw [ef] at q1; cases q1
    | some q =>
      rw [ef] at q1
      cases q1
      exact ⟨_, h1, a, C', dx, fs, _, rfl, h2, hC, hn, lookup_ix h4 hd hx ef, k _ d ρ G H p S .refl q2⟩⟩
/-- self.f = e, a new attribute of the object that is being made -/
@[simp] def wMeSet (i : Nat) (C : Addr) (nm : List Str) (f : Str) (w : WE) : WS := fun ρ O => w ρ fun d ρ1 => match Rho.g ρ1 i with
  | some (.me C' nm' xs) => C' = C ∧ nm' = nm ∧ O.nx (Rho.s ρ1 i (some (.me C (nm ++ [f]) (xs ++ [d]))))
  | _ => False
theorem putF_new {f : Str} {v : V} : ∀ {fs : List (Str × V)}, f ∉ fs.map (·.1) → putF f v fs = fs ++ [(f, v)] := by
  intro fs
  induction fs with
  | nil => intro _; rfl
  | cons g fs ih =>
    intro h
    rw [List.map_cons, List.mem_cons, not_or] at h
    obtain ⟨g1, g2⟩ := g
    show (if g1 = f then _ else (g1, g2) :: putF f v fs) = _
    rw [if_neg (fun z => h.1 z.symm), ih h.2]
    rfl
theorem StOk.putMe {σ : L2.St} {ρ : Rho} {G H : Hp} {i : Nat} {s s2 : Sl} {l : Addr} {o : HO} (S : StOk c σ ρ G H) (e : ρ[i]? = some (some s)) (ho : s.isOw = true) (hs : σ[i]? = some (some (.ref l))) (hg : G l = none) (hf : c.E0 l = none ∨ (s.isMu = true ∧ c.mu = some l)) (ho2 : s2.isOw = true) (hm2 : s2.isMu = s.isMu) (hn : SlOk c.K G (upd H l o) s2 (.ref l)) :
    StOk c σ (ρ.set i (some s2)) G (upd H l o) where
  gg := S.gg
  gh := fun b u h => by
    rw [upd_ne (ne_of_none h hg)]
    exact S.gh b u h
  eh := fun b u h m => by
    have hb : b ≠ l := fun z => by
      subst z
      rcases hf with hf | hf
      · rw [hf] at h; cases h
      · exact m hf.2
    rw [upd_ne hb]
    exact S.eh b u h m
  mh := fun b m => by
    by_cases hb : b = l
    · subst hb; exact ⟨_, upd_same⟩
    · rw [upd_ne hb]; exact S.mh b m
  nw := S.nw
  len := by simp [S.len]
  sl := fun j s' h => by
    rw [List.getElem?_set] at h
    by_cases hij : i = j
    · subst hij
      rw [if_pos rfl] at h
      split at h
      · cases h
        exact ⟨_, hs, hn, fun l' _ z => by cases z; rw [hm2]; exact hf⟩
      · cases h
    · rw [if_neg hij] at h
      obtain ⟨v, h1, h2, h3⟩ := S.sl j s' h
      refine ⟨v, h1, h2.mono (Same.refl _) fun l' ho' hv => ?_, h3⟩
      subst hv
      obtain ⟨l2, u, q1, q2, q3⟩ := Sl.ow_ref h2 ho'
      cases q1
      have hne : l' ≠ l := fun z => by
        subst z
        exact S.dj i j _ s' hij e h ho ho' l' hs h1
      exact ⟨upd_ne hne, q3⟩
  mo := fun j s' h m l' hl p hp => by
    rw [List.getElem?_set] at h
    by_cases hij : i = j
    · subst hij
      rw [if_pos rfl] at h
      split at h
      · cases h
        exact S.mo i s e (hm2 ▸ m) l' hl p hp
      · cases h
    · rw [if_neg hij] at h
      exact S.mo j s' h m l' hl p hp
  dj := fun j k s' s'' hjk e1 e2 o1 o2 l' h1 h2 => by
    have back : ∀ (j : Nat) (s' : Sl), (ρ.set i (some s2))[j]? = some (some s') → s'.isOw = true → ∃ s0, ρ[j]? = some (some s0) ∧ s0.isOw = true := fun j s' h o => by
      rw [List.getElem?_set] at h
      by_cases hij : i = j
      · subst hij
        exact ⟨_, e, ho⟩
      · rw [if_neg hij] at h
        exact ⟨s', h, o⟩
    obtain ⟨s1, q1, q2⟩ := back j s' e1 o1
    obtain ⟨s3, q3, q4⟩ := back k s'' e2 o2
    exact S.dj j k s1 s3 hjk q1 q3 q2 q4 l' h1 h2
theorem pd_meSet (i : Nat) {C : Addr} {nm : List Str} {px pos' : Pos} (hC : Cls X.K C) (hn : NoAttr X.K C x) (hx : x ∉ nm) (hl : nm.length < 1000) (h : PDE X c e te we) (hN : X.N[i]? = some y := by rfl) (hv : Vis X.env.scope y := by first | exact Or.inl rfl | exact Or.inr (Or.inl rfl) | exact Or.inr (Or.inr rfl)) (hdb : (y == ("__debug__" : Str)) = false := by decide)
    (hcd : (y == ("__classdict__" : Str)) = false := by decide) (hs : swapsWith e (some (.Attribute (.Name y px) x pos')) pos.line X.env = pure false := by rfl) (hK : X.K = c.K := by rfl) : PDS X c (.Assign [.Attribute (.Name y px) x pos'] e pos) (sFld c.K (tVar i) te x) (wMeSet i C nm x we) := by
 rw [← hK]
 exact ⟨ps_fld (pv i hN hv hdb hcd) h.p hs, fun σ ρ G H D O S hw k _ _ _ => h.d σ ρ G H _ _ S hw fun v d ρ1 G1 H1 p1 S1 g1 i1 => by
  obtain ⟨C', nm', xs, e, rfl, rfl, p⟩ := wMe_of (f := fun C' nm' xs => C' = C ∧ nm' = nm ∧ O.nx (Rho.s ρ1 i (some (.me C (nm ++ [x]) (xs ++ [d]))))) p1
  obtain ⟨_, h1, ⟨a, dx, fs, rfl, h2, h3, h4, h5⟩, h6⟩ := S1.sl i _ e
  have hlen : fs.length < 1000 := by
    have : fs.length = nm'.length := by rw [← h4, List.length_map]
    omega
  refine ⟨_, h1, a, C', dx, fs, rfl, h2, hC, hn, hlen, k σ _ G1 _ ?_ (S1.putMe (s2 := .me C' (nm' ++ [x]) (xs ++ [d])) e rfl h1 h3 (h6 a rfl rfl) rfl rfl ?_) g1.g⟩
  · rw [← Rho.s_eq]; exact p
  · rw [putF_new (by rw [h4]; exact hx)]
    refine ⟨a, dx, _, rfl, upd_same, h3, ?_, ?_⟩
    · rw [List.map_append, h4]; rfl
    · rw [List.map_append]; exact h5.snoc i1⟩
/-! ### a, b = x, y with plain names -/
@[simp] def wPar (i j : Nat) (wx wy : WX) : WS := fun ρ O => wx ρ fun s ρ1 => wy ρ1 fun s2 ρ2 => O.nx (Rho.s (Rho.s ρ2 i (some s)) j (some s2))
theorem Ct.step {σ : L2.St} {ρ ρ1 : Rho} {H0 G H G1 H1 : Hp} {s : Sl} {v : V} (h : Ct c σ ρ H0 G H s v) (g : Step σ ρ ρ1 G H G1 H1) : Ct c σ ρ1 H0 G1 H1 s v := by
  have gn : ∀ {p : Addr} {u : HO}, NotOwn σ ρ p → H p = some u → G p = none → G1 p = none := fun {p u} h0 h1 h2 => by
    cases e : G1 p with
    | none => rfl
    | some o =>
      rcases g.n p o e h0 with z | z
      · rw [h2] at z; cases z
      · rw [h1] at z; cases z
  cases h with
  | sh h => exact .sh (h.mono g.g)
  | ow h1 h2 h3 h4 h5 h6 => exact .ow (g.h _ _ h1 h4) (gn h4 h1 h2) h3 (g.o _ h4) h5 (h6.mono g.g)
  | dk h1 h2 h3 h4 h5 h6 h7 h8 => exact .dk (g.h _ _ h1 h4) (gn h4 h1 h2) h3 (g.o _ h4) h5 h6 (h7.mono g.g) h8
  | pn h1 h2 h3 h4 h5 h6 =>
    obtain ⟨ac, ns, a1, a2, q1, q2, q3⟩ := h1
    exact .pn ⟨ac, ns, a1, a2, g.h _ _ q1 h4, g.g _ _ q2, q3⟩ (gn h4 q1 h2) h3 (g.o _ h4) h5 h6
theorem Ct.ref {σ : L2.St} {ρ : Rho} {H0 G H : Hp} {s : Sl} {v : V} (h : Ct c σ ρ H0 G H s v) (o : s.isOw = true) : ∃ l u, v = .ref l ∧ H l = some u ∧ H0 l = none := by
  cases h with
  | sh h => cases o
  | ow h1 h2 h3 h4 h5 h6 => exact ⟨_, _, rfl, h1, h5⟩
  | dk h1 h2 h3 h4 h5 h6 h7 h8 => exact ⟨_, _, rfl, h1, h5⟩
  | pn h1 h2 h3 h4 h5 h6 => obtain ⟨ac, ns, a1, a2, q1, _⟩ := h1; exact ⟨_, _, rfl, q1, h5⟩
/-- into another slot: the content is apart from what that slot holds now -/
theorem Ct.set {σ : L2.St} {ρ : Rho} {H0 H1 G H : Hp} {s s1 : Sl} {v v1 : V} (h : Ct c σ ρ H1 G H s v) (i : Nat) (h1 : Ct c σ ρ H0 G H s1 v1) (hd : ∀ l, v1 = .ref l → s1.isOw = true → H1 l ≠ none) (hs : s1.isOw = true → H = H) : Ct c (σ.set i (some v1)) (ρ.set i (some s1)) H1 G H s v := by
  have no : ∀ {p : Addr}, NotOwn σ ρ p → H1 p = none → NotOwn (σ.set i (some v1)) (ρ.set i (some s1)) p := fun {p} n hp j s' e o q => by
    rw [List.getElem?_set] at e q
    by_cases hij : i = j
    · subst hij
      rw [if_pos rfl] at e q
      split at e
      · cases e
        split at q
        · cases q
          exact hd p rfl o hp
        · cases q
      · cases e
    · rw [if_neg hij] at e q
      exact n j s' e o q
  cases h with
  | sh h => exact .sh h
  | ow h1 h2 h3 h4 h5 h6 => exact .ow h1 h2 h3 (no h4 h5) h5 h6
  | dk h1 h2 h3 h4 h5 h6 h7 h8 => exact .dk h1 h2 h3 (no h4 h5) h5 h6 h7 h8
  | pn h1 h2 h3 h4 h5 h6 => exact .pn h1 h2 h3 (no h4 h5) h5 h6
theorem pd_par (i j : Nat) {px py pt : Pos} {kt k2 pt2} (hx : PDX X c a tx wx) (hy : PDX X c b ty wy) (hc : X.calm = true) (hN : X.N.Nodup) (hi : X.N[i]? = some x) (hj : X.N[j]? = some y) (hij : i ≠ j)
    (hlx : X.env.scope.names.lookup x = some .local) (hly : X.env.scope.names.lookup y = some .local)
    (hw : swappedStores [.Tuple [.Name x px, .Name y py] kt pt] (.Tuple [a, b] k2 pt2) X.env = pure (some [x, y])) (h1 : starEach [a, b] X.env = (false, eval a X.env) :: starEach [b] X.env := by rfl) (h2 : starEach [b] X.env = (false, eval b X.env) :: starEach [] X.env := by rfl)
    (hs : swapsWithSole [.Tuple [.Name x px, .Name y py] kt pt] (.Tuple [a, b] k2 pt2) pos.line X.env = pure false := by rfl) :
    PDS X c (.Assign [.Tuple [.Name x px, .Name y py] kt pt] (.Tuple [a, b] k2 pt2) pos) (tPar i j (tCons tx (tCons ty tNil))) (wPar i j wx wy) := ⟨ps_par hc hN hi hj hij hlx hly (pa_cons hx.p (pa_cons hy.p pa_nil h2) h1) hw hs, fun σ ρ G H D O S hw k _ _ _ =>
  hx.d σ ρ G H _ _ S hw fun v s ρ1 G1 H1 p1 S1 g1 i1 => hy.d σ ρ1 G1 H1 _ _ S1 p1 fun v2 s2 ρ2 G2 H2 p2 S2 g2 i2 => by
    refine ⟨v, v2, rfl, k _ _ G2 H2 p2 ?_ (g1.trans g2).g⟩
    rw [Rho.s_eq, Rho.s_eq]
    refine (S2.set i (i1.step g2)).set j (H0 := H1) (i2.set i (i1.step g2) (fun l hv ho => ?_) fun _ => rfl)
    subst hv
    obtain ⟨l', u, q1, q2, q3⟩ := i1.ref ho
    cases q1
    rw [q2]
    exact fun z => by cases z⟩
@[simp] def wPar3 (i j l : Nat) (wx wy wz : WX) : WS := fun ρ O => wx ρ fun s ρ1 => wy ρ1 fun s2 ρ2 => wz ρ2 fun s3 ρ3 => O.nx (Rho.s (Rho.s (Rho.s ρ3 i (some s)) j (some s2)) l (some s3))
theorem pd_par3 (i j l : Nat) {a3 : Expr} {px py pz pt : Pos} {kt k2 pt2} (hx : PDX X c a tx wx) (hy : PDX X c b ty wy) (hz : PDX X c a3 tz wz) (hc : X.calm = true) (hN : X.N.Nodup) (hi : X.N[i]? = some x) (hj : X.N[j]? = some y) (hl : X.N[l]? = some z) (hij : i ≠ j) (hil : i ≠ l) (hjl : j ≠ l)
    (hlx : X.env.scope.names.lookup x = some .local) (hly : X.env.scope.names.lookup y = some .local) (hlz : X.env.scope.names.lookup z = some .local)
    (hw : swappedStores [.Tuple [.Name x px, .Name y py, .Name z pz] kt pt] (.Tuple [a, b, a3] k2 pt2) X.env = pure (some [x, y, z])) (h1 : starEach [a, b, a3] X.env = (false, eval a X.env) :: starEach [b, a3] X.env := by rfl) (h2 : starEach [b, a3] X.env = (false, eval b X.env) :: starEach [a3] X.env := by rfl) (h3 : starEach [a3] X.env = (false, eval a3 X.env) :: starEach [] X.env := by rfl)
    (hs : swapsWithSole [.Tuple [.Name x px, .Name y py, .Name z pz] kt pt] (.Tuple [a, b, a3] k2 pt2) pos.line X.env = pure false := by rfl) :
    PDS X c (.Assign [.Tuple [.Name x px, .Name y py, .Name z pz] kt pt] (.Tuple [a, b, a3] k2 pt2) pos) (tPar3 i j l (tCons tx (tCons ty (tCons tz tNil)))) (wPar3 i j l wx wy wz) := ⟨ps_par3 hc hN hi hj hl hij hil hjl hlx hly hlz (pa_cons hx.p (pa_cons hy.p (pa_cons hz.p pa_nil h3) h2) h1) hw hs, fun σ ρ G H D O S hw k _ _ _ =>
  hx.d σ ρ G H _ _ S hw fun v s ρ1 G1 H1 p1 S1 g1 i1 => hy.d σ ρ1 G1 H1 _ _ S1 p1 fun v2 s2 ρ2 G2 H2 p2 S2 g2 i2 => hz.d σ ρ2 G2 H2 _ _ S2 p2 fun v3 s3 ρ3 G3 H3 p3 S3 g3 i3 => by
    refine ⟨v, v2, v3, rfl, k _ _ G3 H3 p3 ?_ ((g1.trans g2).trans g3).g⟩
    rw [Rho.s_eq, Rho.s_eq, Rho.s_eq]
    have j1 := i1.step (g2.trans g3)
    have j2 := i2.step g3
    have apart : ∀ {ρ ρ1 : Rho} {H0 G H : Hp} {s : Sl} {v : V}, Ct c σ ρ H0 G H s v → ∀ l, v = .ref l → s.isOw = true → H l ≠ none := fun {ρ ρ1 H0 G H s v} i l hv ho z => by
      subst hv
      obtain ⟨l', u, q1, q2, q3⟩ := i.ref ho
      cases q1
      rw [q2] at z
      cases z
    have j12 := j2.set i j1 (apart (ρ1 := ρ) i1) fun _ => rfl
    have j13 := i3.set i j1 (apart (ρ1 := ρ) (i1.step g2)) fun _ => rfl
    refine ((S3.set i j1).set j j12).set l (H0 := H2) (j13.set j j12 (fun l' hv ho z => ?_) fun _ => rfl)
    exact apart (ρ1 := ρ) i2 l' hv ho z⟩
/-! ### what is walked -/
structure Yields (K : PySem.W.Frag) (J : It) (G : Hp) (ds : List D) : Prop where
  go : ∀ i H, i < ds.length → Same G H → J.go i H
  stop : ∀ H, Same G H → J.stop ds.length H
  yld : ∀ i H v H' d, Same G H → ds[i]? = some d → J.yld i H v H' → (H' = H ∧ Is K G d v) ∨ ∃ T vs xs, H T = none ∧ H' = upd H T (.tup vs) ∧ v = .ref T ∧ d = .tup xs ∧ All K G xs vs
def DI (c : Cq) (wi : TI) (w : Rho → (List D → Rho → Prop) → Prop) : Prop := ∀ σ ρ G H (R : It → Hp → Prop) (P : List D → Rho → Prop), StOk c σ ρ G H → w ρ P →
  (∀ J ds ρ' G' H', P ds ρ' → StOk c σ ρ' G' H' → Step σ ρ ρ' G H G' H' → Yields c.K J G' ds → R J H') → wi σ H R
structure PDI (X : Cx) (c : Cq) (tg iter : Expr) (wi : TI) (w : Rho → (List D → Rho → Prop) → Prop) : Prop where
  p : PI X tg iter wi
  d : DI c wi w
variable {tg : Expr}
abbrev WI := Rho → (List D → Rho → Prop) → Prop
@[simp] def wiL (w : WE) : WI := fun ρ P => w ρ fun x ρ1 => match x with
  | .lst xs => P xs ρ1
  | _ => False
@[simp] def wiT (w : WE) : WI := fun ρ P => w ρ fun x ρ1 => match x with
  | .tup xs => P xs ρ1
  | _ => False
theorem y_list {K : PySem.W.Frag} {G : Hp} {a : Addr} {ds : List D} {vs : List V} (h : G a = some (.lst vs)) (al : All K G ds vs) : Yields K (Itl K a) G ds where
  go := fun i H hi s => by
    have : i < vs.length := by rw [al.1]; exact hi
    exact ⟨vs, vs[i], .of (s _ _ h), List.getElem?_eq_getElem this⟩
  stop := fun H s => ⟨vs, .of (s _ _ h), by rw [al.1]; exact Nat.le_refl _⟩
  yld := fun i H v H' d s hd hy => .inl ⟨hy.1, al.2 i d v hd (hy.2 vs (.of (s _ _ h)))⟩
theorem y_tup {K : PySem.W.Frag} {G : Hp} {a : Addr} {ds : List D} {vs : List V} (h : SqT K G a vs) (al : All K G ds vs) : Yields K (Itt K a) G ds where
  go := fun i H hi s => by
    have : i < vs.length := by rw [al.1]; exact hi
    exact ⟨vs, vs[i], seqT_mono s h, List.getElem?_eq_getElem this⟩
  stop := fun H s => ⟨vs, seqT_mono s h, by rw [al.1]; exact Nat.le_refl _⟩
  yld := fun i H v H' d s hd hy => .inl ⟨hy.1, al.2 i d v hd (hy.2 vs (seqT_mono s h))⟩
theorem pdi_list (h : PDE X c e te we) (hK : X.K = c.K := by rfl) : PDI X c tg e (iList c.K te) (wiL we) := by
 rw [← hK]
 exact ⟨pi_list h.p, fun σ ρ G H R P S hw k => h.d σ ρ G H _ _ S hw fun v d ρ1 G1 H1 p1 S1 g1 i1 => by
  cases d <;> first | exact p1.elim | skip
  cases i1 with
  | lst h1 h2 h3 =>
    rw [hK]
    exact ⟨_, rfl, ⟨_, .of (S1.gh _ _ h1)⟩, k _ _ ρ1 G1 H1 p1 S1 g1 (y_list h1 ⟨h2, h3⟩)⟩⟩
theorem pdi_tup (h : PDE X c e te we) (hK : X.K = c.K := by rfl) : PDI X c tg e (iTup c.K te) (wiT we) := by
 rw [← hK]
 exact ⟨pi_tup h.p, fun σ ρ G H R P S hw k => h.d σ ρ G H _ _ S hw fun v d ρ1 G1 H1 p1 S1 g1 i1 => by
  cases d <;> first | exact p1.elim | skip
  cases i1 with
  | tup h1 h2 h3 =>
    rw [hK]
    exact ⟨_, rfl, ⟨_, seqT_mono S1.gh h1⟩, k _ _ ρ1 G1 H1 p1 S1 g1 (y_tup h1 ⟨h2, h3⟩)⟩⟩
/-- lo, lo + 1, .. -/
def rangeD (lo : Int) (n : Nat) : List D := (List.range n).map fun i => .int (lo + (i : Nat))
theorem y_range {K : PySem.W.Frag} {G : Hp} (lo : Int) (n : Nat) : Yields K (Itr lo n) G (rangeD lo n) where
  go := fun i H hi s => by
    unfold rangeD at hi
    rw [List.length_map, List.length_range] at hi
    exact hi
  stop := fun H s => by
    unfold rangeD
    rw [List.length_map, List.length_range]
    exact Nat.le_refl n
  yld := fun i H v H' d s hd hy => by
    unfold rangeD at hd
    rw [List.getElem?_map] at hd
    cases e : (List.range n)[i]? with
    | none => rw [e] at hd; cases hd
    | some j =>
      rw [e] at hd
      cases hd
      obtain ⟨hj, e⟩ := List.getElem?_eq_some_iff.mp e
      rw [List.getElem_range] at e
      subst e
      rw [hy.2]
      exact .inl ⟨hy.1, .int _⟩
@[simp] def wiR1 (w : WE) : WI := fun ρ P => w ρ fun x ρ1 => match x with
  | .int n => -(2 ^ 62) ≤ n ∧ n < 2 ^ 62 ∧ P (rangeD 0 n.toNat) ρ1
  | _ => False
@[simp] def wiR2 (w w' : WE) : WI := fun ρ P => w ρ fun x ρ1 => w' ρ1 fun y ρ2 => match x, y with
  | .int i, .int j => (-(2 ^ 62) ≤ i ∧ i < 2 ^ 62 ∧ -(2 ^ 62) ≤ j ∧ j < 2 ^ 62) ∧ P (rangeD i (j - i).toNat) ρ2
  | _, _ => False
theorem pdi_range1 (hm : X.mg "range" = none) (h : PDE X c a ta wa) (hg : Gl X "range" := by rfl) (hs : starEach [a] X.env = [(false, eval a X.env)] := by rfl) : PDI X c tg (.Call (.Name "range" p) [a] [] pos) (iRng1 (tCons ta tNil)) (wiR1 wa) := ⟨pi_range1 hg hm (pa_cons h.p pa_nil hs) hs, fun σ ρ G H R P S hw k => h.d σ ρ G H _ _ S hw fun v d ρ1 G1 H1 p1 S1 g1 i1 => by
  cases d <;> first | exact p1.elim | skip
  cases i1
  exact ⟨_, rfl, p1.1, p1.2.1, k _ _ ρ1 G1 H1 p1.2.2 S1 g1 (y_range _ _)⟩⟩
theorem pdi_range2 (hm : X.mg "range" = none) (h : PDE X c a ta wa) (h' : PDE X c b tb wb) (hg : Gl X "range" := by rfl) (hs : starEach [a, b] X.env = [(false, eval a X.env), (false, eval b X.env)] := by rfl) (hs2 : starEach [b] X.env = [(false, eval b X.env)] := by rfl) : PDI X c tg (.Call (.Name "range" p) [a, b] [] pos) (iRng2 (tCons ta (tCons tb tNil))) (wiR2 wa wb) := ⟨pi_range2 hg hm (pa_cons h.p (pa_cons h'.p pa_nil hs2) (by rw [hs, hs2])) hs hs2, fun σ ρ G H R P S hw k => h.d σ ρ G H _ _ S hw fun v d ρ1 G1 H1 p1 S1 g1 i1 => h'.d σ ρ1 G1 H1 _ _ S1 p1 fun v2 d2 ρ2 G2 H2 p2 S2 g2 i2 => by
  cases d <;> cases d2 <;> first | exact p2.elim | skip
  cases i1; cases i2
  exact ⟨_, _, rfl, p2.1, k _ _ ρ2 G2 H2 p2.2 S2 (g1.trans g2) (y_range _ _)⟩⟩
/-- enumerate(xs) -/
def enumD : Nat → List D → List D
  | _, [] => []
  | n, d :: r => .tup [.int (n : Nat), d] :: enumD (n + 1) r
theorem enumD_len : ∀ (ds : List D) (n : Nat), (enumD n ds).length = ds.length
  | [], _ => rfl
  | d :: r, n => by
    show (enumD (n + 1) r).length + 1 = r.length + 1
    rw [enumD_len r]
theorem enumD_get : ∀ (ds : List D) (n i : Nat) {e : D}, (enumD n ds)[i]? = some e → ∃ d, ds[i]? = some d ∧ e = .tup [.int ((n + i : Nat) : Int), d]
  | [], _, _, _, h => by simp [enumD] at h
  | d :: r, n, 0, e, h => by
    simp only [enumD, List.getElem?_cons_zero, Option.some.injEq] at h
    exact ⟨d, rfl, by rw [← h]; rfl⟩
  | d :: r, n, i + 1, e, h => by
    simp only [enumD, List.getElem?_cons_succ] at h
    obtain ⟨d', h1, h2⟩ := enumD_get r (n + 1) i h
    exact ⟨d', by rw [List.getElem?_cons_succ]; exact h1, by rw [h2]; congr 3; congr 1; omega⟩
theorem y_enum {K : PySem.W.Frag} {G : Hp} {a : Addr} {ds : List D} {vs : List V} (h : G a = some (.lst vs)) (al : All K G ds vs) : Yields K (Ite K a) G (enumD 0 ds) where
  go := fun i H hi s => by
    rw [enumD_len] at hi
    have : i < vs.length := by rw [al.1]; exact hi
    exact ⟨vs, vs[i], .of (s _ _ h), List.getElem?_eq_getElem this⟩
  stop := fun H s => ⟨vs, .of (s _ _ h), by rw [al.1, enumD_len]; exact Nat.le_refl _⟩
  yld := fun i H v H' d s hd hy => by
    obtain ⟨d', h1, h2⟩ := enumD_get ds 0 i hd
    obtain ⟨T, x, rfl, hT, rfl, hx⟩ := hy
    refine .inr ⟨T, _, _, hT, rfl, rfl, h2, ?_⟩
    rw [Nat.zero_add]
    exact .cons (.int _) (.cons (al.2 i d' x h1 (hx vs (.of (s _ _ h)))) .nil)
@[simp] def wiE (w : WE) : WI := fun ρ P => w ρ fun x ρ1 => match x with
  | .lst xs => P (enumD 0 xs) ρ1
  | _ => False
theorem pdi_enum {elts : List Expr} {kk : Nat} {tpos : Pos} (hm : X.mg "enumerate" = none) (h : PDE X c e te we) (hg : Gl X "enumerate" := by rfl) (hK : X.K = c.K := by rfl) (hs : starEach [e] X.env = [(false, eval e X.env)] := by rfl) : PDI X c (.Tuple elts kk tpos) (.Call (.Name "enumerate" p) [e] [] pos) (iEnum c.K (tCons te tNil)) (wiE we) := by
 rw [← hK]
 exact ⟨pi_enum hg hm (pa_cons h.p pa_nil hs) hs, fun σ ρ G H R P S hw k => h.d σ ρ G H _ _ S hw fun v d ρ1 G1 H1 p1 S1 g1 i1 => by
  cases d <;> first | exact p1.elim | skip
  cases i1 with
  | lst h1 h2 h3 =>
    rw [hK]
    exact ⟨_, _, rfl, .of (S1.gh _ _ h1), k _ _ ρ1 G1 H1 p1 S1 g1 (y_enum h1 ⟨h2, h3⟩)⟩⟩
/-! ### for -/
def wLoop (wg : WG) (wb : WS) : List D → Rho → Out → Prop
  | [], ρ, O => O.nx ρ
  | d :: ds, ρ, O => wg d ρ fun ρ' => wb ρ' { nx := fun ρ2 => wLoop wg wb ds ρ2 O, rt := O.rt, bk := O.nx, ct := fun ρ2 => wLoop wg wb ds ρ2 O }
@[simp] def wFor (wi : WI) (wg : WG) (wb : WS) : WS := fun ρ O => wi ρ fun ds ρ1 => wLoop wg wb ds ρ1 O
variable {g : TG} {wg : WG} {tbd : TS} {wbd : WS} {wi : TI} {wii : WI}
/-- what the iterator gave stands in the frame -/
theorem yld_in {σ : L2.St} {ρ : Rho} {G0 G H H' : Hp} {J : It} {ds : List D} {i : Nat} {v : V} {d : D} (S : StOk c σ ρ G H) (Y : Yields c.K J G0 ds) (g0 : Same G0 G) (hd : ds[i]? = some d) (hy : J.yld i H v H') :
    ∃ G', StOk c σ ρ G' H' ∧ Step σ ρ ρ G H G' H' ∧ Is c.K G' d v := by
  rcases Y.yld i H v H' d (g0.trans S.gh) hd hy with ⟨rfl, h⟩ | ⟨T, vs, xs, hT, rfl, rfl, rfl, al⟩
  · exact ⟨G, S, .refl, h.mono g0⟩
  · have al2 := (al.mono g0).mono (same_new (o := .tup vs) (S.free hT))
    exact ⟨_, S.new hT, .new (S.free hT) hT, .tup (.of upd_same) al2.1 al2.2⟩
theorem ds_for (hi : DI c wi wii) (hg : DG c g wg) (hb : DS c tbd wbd) : DS c (tFor wi g tbd) (wFor wii wg wbd) := fun σ ρ G H D O S hw k1 k2 k3 k4 => hi σ ρ G H _ _ S hw fun J ds ρ1 G1 H1 p1 S1 g1 Y => by
  refine ⟨fun i m σ' H' => i + m = ds.length ∧ ∃ ρ' G', StOk c σ' ρ' G' H' ∧ Same G1 G' ∧ wLoop wg wbd (ds.drop i) ρ' O, ⟨ds.length, by omega, ρ1, G1, S1, Same.refl _, p1⟩, fun i m σ' H' h => ?_⟩
  obtain ⟨him, ρ', G', S', g', hl⟩ := h
  by_cases hm : m = 0
  · subst hm
    left
    have e : i = ds.length := by omega
    subst e
    rw [List.drop_length] at hl
    exact ⟨Y.stop H' (g'.trans S'.gh), k1 σ' ρ' G' H' hl S' (g1.g.trans g')⟩
  · right
    have hlt : i < ds.length := by omega
    refine ⟨Y.go i H' hlt (g'.trans S'.gh), fun σ2 H2 => ∃ ρ2 G2, StOk c σ2 ρ2 G2 H2 ∧ Same G1 G2 ∧ wLoop wg wbd (ds.drop (i + 1)) ρ2 O, fun σ2 H2 ⟨ρ2, G2, q1, q2, q3⟩ => ⟨m - 1, by omega, by omega, ρ2, G2, q1, q2, q3⟩, fun v H2 hy => ?_⟩
    have hd : ds[i]? = some ds[i] := List.getElem?_eq_getElem hlt
    rw [List.drop_eq_getElem_cons hlt] at hl
    obtain ⟨G2, S2, st2, i2⟩ := yld_in S' Y g' hd hy
    exact hg σ' ρ' G2 H2 v _ _ _ S2 i2 hl fun σ3 ρ3 G3 H3 p3 S3 g3 => hb σ3 ρ3 G3 H3 _ _ S3 p3
      (fun σ4 ρ4 G4 H4 p4 S4 g4 => ⟨ρ4, G4, S4, g'.trans (st2.g.trans (g3.trans g4)), p4⟩)
      (fun v4 d4 σ4 ρ4 G4 H4 p4 S4 g4 i4 => k2 v4 d4 σ4 ρ4 G4 H4 p4 S4 (g1.g.trans (g'.trans (st2.g.trans (g3.trans g4)))) i4)
      (fun σ4 ρ4 G4 H4 p4 S4 g4 => k1 σ4 ρ4 G4 H4 p4 S4 (g1.g.trans (g'.trans (st2.g.trans (g3.trans g4)))))
      (fun σ4 ρ4 G4 H4 p4 S4 g4 => ⟨ρ4, G4, S4, g'.trans (st2.g.trans (g3.trans g4)), p4⟩)
theorem pd_for {iter : Expr} {body : List Stmt} (hp : PassesOwn (model X.prog X.w) X.A X.env X.xe) (hi : PDI X c tg iter wi wii) (hg : PDG X c tg g wg) (hb : PDSs X c body tbd wbd) (hc : X.calm = true := by rfl) (hs : ∀ x, foldedSetIterable iter X.env x = pure x := by intro _; rfl) :
    PDS X c (.For tg iter body [] pos) (tFor wi g tbd) (wFor wii wg wbd) := ⟨ps_for hp hc hi.p hg.p hb.p hs, ds_for hi.d hg.d hb.d⟩
end
end DL
end

section
set_option maxRecDepth 100000
set_option maxHeartbeats 1000000
namespace DL
open PySem PySem.Spec PyProof.Rows L2
/-- nothing is raised out of a comprehension's block -/
def Cq.blk (c : Cq) : Cq := ⟨c.K, c.G0, c.E0, c.mu, fun _ _ _ => False, fun _ _ _ => False, fun _ _ _ _ _ _ _ h => h.elim⟩
section
variable {c : Cq} {X : Cx} {a b e elt iter iter1 tg tg1 : Expr} {es ifs ifs1 : List Expr} {ta tb te tx ty tz : TE} {ts : TA} {wa wb we : WE} {ws : WA} {w2 : W2} {wx wy wz : WX} {p pos : Pos} {x y z : Str}
theorem StOk.blk {σ : L2.St} {ρ : Rho} {G H : Hp} (S : StOk c σ ρ G H) : StOk c.blk σ ρ G H := ⟨S.gg, S.gh, S.eh, S.mh, S.nw, S.len, S.sl, S.mo, S.dj⟩
theorem StOk.unblk {σ : L2.St} {ρ : Rho} {G H : Hp} (S : StOk c.blk σ ρ G H) : StOk c σ ρ G H := ⟨S.gg, S.gh, S.eh, S.mh, S.nw, S.len, S.sl, S.mo, S.dj⟩
/-- a target that only stores names of vs -/
def DGp (c : Cq) (vs : List Nat) (g : TG) (w : WG) : Prop := ∀ σ ρ G H v d (Q : L2.St → Hp → Prop) (P : Rho → Prop), StOk c σ ρ G H → Is c.K G d v → w d ρ P →
  (∀ σ' ρ', P ρ' → StOk c σ' ρ' G H → wipe σ' vs = wipe σ vs → (∀ l, NotOwn σ ρ l → NotOwn σ' ρ' l) → Q σ' H) → g v σ H Q
def DGps (c : Cq) (vs : List Nat) (g : TGs) (w : WGs) : Prop := ∀ σ ρ G H us ds (Q : L2.St → Hp → Prop) (P : Rho → Prop), StOk c σ ρ G H → All c.K G ds us → w ds ρ P →
  (∀ σ' ρ', P ρ' → StOk c σ' ρ' G H → wipe σ' vs = wipe σ vs → (∀ l, NotOwn σ ρ l → NotOwn σ' ρ' l) → Q σ' H) → g us σ H Q
structure PDGp (X : Cx) (c : Cq) (vs : List Nat) (e : Expr) (t : TG) (w : WG) : Prop where
  p : PG X e t
  d : DGp c vs t w
structure PDGps (X : Cx) (c : Cq) (vs : List Nat) (es : List Expr) (t : TGs) (w : WGs) : Prop where
  p : PGs X es t
  d : DGps c vs t w
theorem wipe_set {i : Nat} {v : Option V} : ∀ {vs : List Nat} {σ : L2.St}, i ∈ vs → wipe (σ.set i v) vs = wipe σ vs := by
  intro vs
  induction vs with
  | nil => intro σ h; cases h
  | cons j vs ih =>
    intro σ h
    show (wipe (σ.set i v) vs).set j none = (wipe σ vs).set j none
    by_cases hi : i ∈ vs
    · rw [ih hi]
    · have hij : i = j := by
        rcases List.mem_cons.mp h with h | h
        · exact h
        · exact absurd h hi
      subst hij
      apply List.ext_getElem?
      intro k
      rw [List.getElem?_set, List.getElem?_set, wipe_length, wipe_length, List.length_set]
      by_cases hk : i = k
      · subst hk; rw [if_pos rfl, if_pos rfl]
      · rw [if_neg hk, if_neg hk]
        by_cases hkv : k ∈ vs
        · have : ∀ (σ : L2.St) (vs : List Nat), k ∈ vs → (wipe σ vs)[k]? = if k < σ.length then some none else none := by
            intro σ vs
            induction vs with
            | nil => intro h; cases h
            | cons m vs ih2 =>
              intro h
              show ((wipe σ vs).set m none)[k]? = _
              rw [List.getElem?_set, wipe_length]
              by_cases hm : m = k
              · subst hm; rw [if_pos rfl]
              · rw [if_neg hm]
                rcases List.mem_cons.mp h with h | h
                · exact absurd h.symm hm
                · exact ih2 h
          rw [this _ _ hkv, this _ _ hkv, List.length_set]
        · rw [wipe_out hkv, wipe_out hkv, List.getElem?_set, if_neg hk]
theorem notOwn_set {σ : L2.St} {ρ : Rho} {i : Nat} {v : V} {d : D} : ∀ l, NotOwn σ ρ l → NotOwn (σ.set i (some v)) (ρ.set i (some (.sh d))) l := fun l n j s e o q => by
  rw [List.getElem?_set] at e q
  by_cases hij : i = j
  · subst hij
    rw [if_pos rfl] at e
    split at e
    · cases e; cases o
    · cases e
  · rw [if_neg hij] at e q
    exact n j s e o q
theorem pdgp_name {vs : List Nat} (i : Nat) (hv : i ∈ vs) (hN : X.N.Nodup) (hi : X.N[i]? = some x) (hx : Loc X.env.scope x) (hf : X.fn x = true ∨ X.env.scope.names.lookup x = some .local := by first | exact .inl rfl | exact .inr rfl | assumption) : PDGp X c vs (.Name x pos) (gName i) (wgName i) :=
  ⟨pg_name hN hi hx hf, fun σ ρ G H v d Q P S i' hw k => k _ _ (by rw [← Rho.s_eq]; exact hw) (S.set (H0 := H) i (.sh i')) (wipe_set hv) notOwn_set⟩
variable {vs : List Nat} {g g1 : TG} {wg wg1 : WG} {tgs : TGs} {wgs : WGs}
theorem pdgps_nil : PDGps X c vs [] gNil wgsNil := ⟨pgs_nil, fun σ ρ G H us ds Q P S a hw k => by
  cases ds with
  | nil => exact ⟨a.unnil, k σ ρ hw S rfl fun _ n => n⟩
  | cons d r => exact hw.elim⟩
theorem pdgps_cons (h1 : PDGp X c vs a g wg) (h2 : PDGps X c vs es tgs wgs) (hs : (assignEach (a :: es) X.env).map (·.2) = assign a X.env :: (assignEach es X.env).map (·.2) := by rfl) : PDGps X c vs (a :: es) (gCons g tgs) (wgsCons wg wgs) := ⟨pgs_cons h1.p h2.p hs, fun σ ρ G H us ds Q P S al hw k => by
  cases ds with
  | nil => exact hw.elim
  | cons d r =>
    obtain ⟨v, us, rfl, i1, i2⟩ := al.uncons
    exact ⟨v, us, rfl, h1.d σ ρ G H v d _ _ S i1 hw fun σ1 ρ1 p1 S1 e1 n1 => h2.d σ1 ρ1 G H us r Q P S1 i2 p1 fun σ2 ρ2 p2 S2 e2 n2 => k σ2 ρ2 p2 S2 (e2.trans e1) fun l n => n2 l (n1 l n)⟩⟩
theorem pdgp_tup {k n : Nat} (hc : X.calm = true) (h : PDGps X c vs es tgs wgs) (hn : (assignEach es X.env).length = n := by rfl) (hst : (assignEach es X.env).findIdx? (·.1) = none := by rfl) (hK : X.K = c.K := by rfl) : PDGp X c vs (.Tuple es k pos) (gTup c.K n tgs) (wgTup n wgs) := by
 rw [← hK]
 exact ⟨pg_tup hc h.p hn hst, fun σ ρ G H v d Q P S i hw k => by
  cases d <;> first | exact hw.elim | skip
  cases i with
  | tup h1 h2 h3 =>
    rw [hK]
    exact ⟨_, _, rfl, seqT_mono S.gh h1, by rw [h2]; exact hw.1, h.d σ ρ G H _ _ Q P S ⟨h2, h3⟩ hw.2 k⟩⟩
/-! ### comprehensions -/
structure PDTs (X : Cx) (c : Cq) (ifs : List Expr) (t : TT) (w : WT) : Prop where
  p : PTs X ifs t
  d : DT c t w
@[simp] def wYes : WT := fun ρ P => P true ρ
theorem pdts_nil : PDTs X c [] tYes wYes := ⟨pts_nil, fun σ ρ G H Q P S hw k => k true ρ G H hw S .refl⟩
theorem pdts_one {tt : TT} {wt : WT} (h : PDT X c a tt wt) : PDTs X c [a] tt wt := ⟨pts_one h.p, h.d⟩
def wipeR (ρ : Rho) : List Nat → Rho
  | [] => ρ
  | v :: vs => Rho.s (wipeR ρ vs) v none
@[simp] def noneAt (ρ : Rho) : List Nat → Prop
  | [] => True
  | v :: vs => Rho.g ρ v = none ∧ noneAt ρ vs
theorem wipeR_get : ∀ {vs : List Nat} {ρ : Rho} {i : Nat} {s : Sl}, (wipeR ρ vs)[i]? = some (some s) → ρ[i]? = some (some s) ∧ i ∉ vs := by
  intro vs
  induction vs with
  | nil => intro ρ i s h; exact ⟨h, fun z => by cases z⟩
  | cons v vs ih =>
    intro ρ i s h
    have h' : ((wipeR ρ vs).set v none)[i]? = some (some s) := by rw [← Rho.s_eq]; exact h
    rw [List.getElem?_set] at h'
    by_cases hv : v = i
    · subst hv
      rw [if_pos rfl] at h'
      split at h' <;> cases h'
    · rw [if_neg hv] at h'
      obtain ⟨q1, q2⟩ := ih h'
      exact ⟨q1, fun z => by
        rcases List.mem_cons.mp z with z | z
        · exact hv z.symm
        · exact q2 z⟩
theorem wipeR_len (ρ : Rho) : ∀ vs : List Nat, (wipeR ρ vs).length = ρ.length
  | [] => rfl
  | v :: vs => by
    show (Rho.s (wipeR ρ vs) v none).length = _
    rw [Rho.s_eq, List.length_set, wipeR_len ρ vs]
theorem noneAt_of : ∀ {vs : List Nat} {ρ : Rho}, noneAt ρ vs → ∀ i s, ρ[i]? = some (some s) → i ∉ vs := by
  intro vs
  induction vs with
  | nil => intro ρ _ i s _ h; cases h
  | cons v vs ih =>
    intro ρ h i s e hm
    rcases List.mem_cons.mp hm with hm | hm
    · subst hm
      have h1 : Rho.g ρ i = none := h.1
      rw [Rho.g_of e] at h1
      cases h1
    · exact ih h.2 i s e hm
/-- the block's names forgotten -/
theorem StOk.wipe {σ : L2.St} {ρ : Rho} {G H : Hp} (S : StOk c σ ρ G H) (hn : ∀ (i : Nat) s, ρ[i]? = some (some s) → i ∉ vs) : StOk c (wipe σ vs) ρ G H where
  gg := S.gg
  gh := S.gh
  eh := S.eh
  mh := S.mh
  nw := S.nw
  len := by rw [wipe_length]; exact S.len
  sl := fun i s e => by
    rw [wipe_out (hn i s e)]
    exact S.sl i s e
  mo := fun i s e m l => by
    rw [wipe_out (hn i s e)]
    exact S.mo i s e m l
  dj := fun i j s s' hij e1 e2 o1 o2 l => by
    rw [wipe_out (hn i s e1), wipe_out (hn j s' e2)]
    exact S.dj i j s s' hij e1 e2 o1 o2 l
theorem notOwn_wipe {σ : L2.St} {ρ : Rho} {l : Addr} (n : NotOwn σ ρ l) (hn : ∀ (i : Nat) s, ρ[i]? = some (some s) → i ∉ vs) : NotOwn (wipe σ vs) ρ l := fun i s e o q => by
  rw [wipe_out (hn i s e)] at q
  exact n i s e o q
/-- back in the frame -/
theorem same_slot {σ σ2 : L2.St} (h : L2.wipe σ2 vs = L2.wipe σ vs) {i : Nat} (hi : i ∉ vs) : σ2[i]? = σ[i]? := by
  have : (L2.wipe σ2 vs)[i]? = (L2.wipe σ vs)[i]? := by rw [h]
  rw [wipe_out hi, wipe_out hi] at this
  exact this
theorem StOk.back {σ σ2 : L2.St} {ρ : Rho} {G H : Hp} (S : StOk c σ2 ρ G H) (h : L2.wipe σ2 vs = L2.wipe σ vs) : StOk c σ (wipeR ρ vs) G H where
  gg := S.gg
  gh := S.gh
  eh := S.eh
  mh := S.mh
  nw := S.nw
  len := by
    have := congrArg List.length h
    rw [wipe_length, wipe_length] at this
    rw [wipeR_len, ← S.len, this]
  sl := fun i s e => by
    obtain ⟨e, hi⟩ := wipeR_get e
    rw [← same_slot h hi]
    exact S.sl i s e
  mo := fun i s e m l => by
    obtain ⟨e, hi⟩ := wipeR_get e
    rw [← same_slot h hi]
    exact S.mo i s e m l
  dj := fun i j s s' hij e1 e2 o1 o2 l => by
    obtain ⟨e1, h1⟩ := wipeR_get e1
    obtain ⟨e2, h2⟩ := wipeR_get e2
    rw [← same_slot h h1, ← same_slot h h2]
    exact S.dj i j s s' hij e1 e2 o1 o2 l
theorem notOwn_back {σ σ2 : L2.St} {ρ : Rho} {l : Addr} (n : NotOwn σ2 ρ l) (h : L2.wipe σ2 vs = L2.wipe σ vs) : NotOwn σ (wipeR ρ vs) l := fun i s e o q => by
  obtain ⟨e, hi⟩ := wipeR_get e
  rw [← same_slot h hi] at q
  exact n i s e o q
/-- an object apart is written -/
theorem StOk.side {σ : L2.St} {ρ : Rho} {G H : Hp} {l : Addr} {o : HO} (S : StOk c σ ρ G H) (hg : G l = none) (he : c.E0 l = none) (n : NotOwn σ ρ l) : StOk c σ ρ G (upd H l o) where
  gg := S.gg
  gh := fun b u h => by
    rw [upd_ne (ne_of_none h hg)]
    exact S.gh b u h
  eh := fun b u h m => by
    rw [upd_ne (ne_of_none h he)]
    exact S.eh b u h m
  mh := fun b m => by
    by_cases hb : b = l
    · subst hb; exact ⟨_, upd_same⟩
    · rw [upd_ne hb]; exact S.mh b m
  nw := S.nw
  len := S.len
  sl := fun j s h => by
    obtain ⟨v, h1, h2, h3⟩ := S.sl j s h
    refine ⟨v, h1, h2.mono (Same.refl _) fun l' ho hv => ?_, h3⟩
    subst hv
    obtain ⟨l2, u, q1, q2, q3⟩ := Sl.ow_ref h2 ho
    cases q1
    exact ⟨upd_ne (fun z => by subst z; exact n j s h ho h1), q3⟩
  mo := S.mo
  dj := S.dj
/-- the heap without the thing at L -/
def rm (H : Hp) (L : Addr) : Hp := fun a => if a = L then none else H a
theorem rm_some {H : Hp} {L l : Addr} {u : HO} (h : rm H L l = some u) : l ≠ L ∧ H l = some u := by
  unfold rm at h
  by_cases e : l = L
  · rw [if_pos e] at h; cases h
  · rw [if_neg e] at h; exact ⟨e, h⟩
theorem rm_none {H : Hp} {L l : Addr} (h : H l = none) : rm H L l = none := by
  unfold rm
  by_cases e : l = L
  · rw [if_pos e]
  · rw [if_neg e]; exact h
theorem rm_ne {H : Hp} {L l : Addr} (h : l ≠ L) : rm H L l = H l := by unfold rm; rw [if_neg h]
theorem rm_at {H : Hp} {L : Addr} : rm H L L = none := by unfold rm; rw [if_pos rfl]
theorem Step.rmr {σ : L2.St} {ρ : Rho} {G H : Hp} {L : Addr} : Step σ ρ ρ G (rm H L) G H := ⟨Same.refl _, fun l u e _ => (rm_some e).2, fun l u e _ => .inl e, fun l e => rm_none e, fun _ n => n⟩
theorem Step.rmt {σ : L2.St} {ρ ρ1 ρ2 : Rho} {G H G1 H1 G2 H2 : Hp} {L : Addr} (a : Step σ ρ ρ1 G (rm H L) G1 H1) (b : Step σ ρ1 ρ2 G1 (rm H1 L) G2 H2) : Step σ ρ ρ2 G (rm H L) G2 H2 where
  g := a.g.trans b.g
  h := fun l u e n => b.h l u (by rw [rm_ne (rm_some e).1]; exact a.h l u e n) (a.o l n)
  n := fun l u e n => by
    rcases b.n l u e (a.o l n) with h | h
    · exact a.n l u h n
    · by_cases hl : l = L
      · subst hl; exact .inr rm_at
      · rw [rm_ne hl] at h
        exact .inr (a.d l h)
  d := fun l e => by
    have h := b.d l e
    by_cases hl : l = L
    · subst hl; exact rm_at
    · rw [rm_ne hl] at h
      exact a.d l h
  o := fun l n => b.o l (a.o l n)
theorem Step.rmp {σ : L2.St} {ρ ρ1 : Rho} {G H G1 H1 : Hp} {L : Addr} {o : HO} (a : Step σ ρ ρ1 G (rm H L) G1 H1) : Step σ ρ ρ1 G (rm H L) G1 (upd H1 L o) where
  g := a.g
  h := fun l u e n => by
    rw [upd_ne (rm_some e).1]
    exact a.h l u e n
  n := a.n
  d := fun l e => by
    by_cases hl : l = L
    · subst hl; rw [upd_same] at e; cases e
    · rw [upd_ne hl] at e; exact a.d l e
  o := a.o
def wMap (F : Rho → Prop) (wg : WG) (wt : WT) (we : WE) (vs : List Nat) : List D → Rho → List D → (List D → Rho → Prop) → Prop
  | [], ρ, acc, k => k acc ρ
  | d :: ds, ρ, acc, k => wg d ρ fun ρ2 => wt ρ2 fun b ρ3 => (b = true → we ρ3 fun y ρ4 => acc.length < sizeLine ∧ F (wipeR ρ4 vs) ∧ wMap F wg wt we vs ds (wipeR ρ4 vs) (acc ++ [y]) k) ∧ (b = false → F (wipeR ρ3 vs) ∧ wMap F wg wt we vs ds (wipeR ρ3 vs) acc k)
def yesF : Rho → Prop := fun _ => True
def wLc (wi : WI) (wg : WG) (wt : WT) (we : WE) (vs : List Nat) : WX := fun ρ P => wi ρ fun ds ρ1 => noneAt ρ1 vs ∧ wMap yesF wg wt we vs ds ρ1 [] fun acc ρ2 => P (.ow acc) ρ2
/-- an own list is walked, and stays -/
def ownF (i : Nat) (ds : List D) : Rho → Prop := fun ρ => Rho.g ρ i = some (.ow ds)
def wLcO (i : Nat) (wg : WG) (wt : WT) (we : WE) (vs : List Nat) : WX := fun ρ P => match Rho.g ρ i with
  | some (.ow ds) => noneAt ρ vs ∧ wMap (ownF i ds) wg wt we vs ds ρ [] fun acc ρ2 => P (.ow acc) ρ2
  | _ => False
/-- what an iterator gives in the states of the loop -/
structure YS (c : Cq) (σ : L2.St) (J : It) (G0 : Hp) (ds : List D) (F : Rho → Prop) : Prop where
  go : ∀ i ρ G H, i < ds.length → StOk c σ ρ G H → Same G0 G → F ρ → J.go i H
  stop : ∀ ρ G H, StOk c σ ρ G H → Same G0 G → F ρ → J.stop ds.length H
  yld : ∀ i ρ G H v H' d, StOk c σ ρ G H → Same G0 G → F ρ → ds[i]? = some d → J.yld i H v H' → ∃ G', StOk c σ ρ G' H' ∧ Step σ ρ ρ G H G' H' ∧ Is c.K G' d v
theorem Yields.ys {σ : L2.St} {J : It} {G0 : Hp} {ds : List D} (Y : Yields c.K J G0 ds) : YS c σ J G0 ds yesF where
  go := fun i ρ G H hi S g _ => Y.go i H hi (g.trans S.gh)
  stop := fun ρ G H S g _ => Y.stop H (g.trans S.gh)
  yld := fun i ρ G H v H' d S g _ hd hy => yld_in S Y g hd hy
theorem ys_own {σ : L2.St} {i : Nat} {l : Addr} {ds : List D} {G0 : Hp} (hs : σ[i]? = some (some (.ref l))) : YS c σ (Itl c.K l) G0 ds (ownF i ds) where
  go := fun j ρ G H hj S g f => by
    obtain ⟨l', us, q1, q2, q3, q4, _⟩ := own_at S (Rho.g_eq ρ i f)
    rw [hs] at q1
    cases q1
    have : j < us.length := by rw [q4.1]; exact hj
    exact ⟨us, us[j], .of q2, List.getElem?_eq_getElem this⟩
  stop := fun ρ G H S g f => by
    obtain ⟨l', us, q1, q2, q3, q4, _⟩ := own_at S (Rho.g_eq ρ i f)
    rw [hs] at q1
    cases q1
    exact ⟨us, .of q2, by rw [q4.1]; exact Nat.le_refl _⟩
  yld := fun j ρ G H v H' d S g f hd hy => by
    obtain ⟨l', us, q1, q2, q3, q4, _⟩ := own_at S (Rho.g_eq ρ i f)
    rw [hs] at q1
    cases q1
    obtain ⟨rfl, hx⟩ := hy
    exact ⟨G, S, .refl, q4.2 j d v hd (hx us (.of q2))⟩
variable {wi wi1 : TI} {wii wii1 : WI} {tt tt1 : TT} {wt wt1 : WT}
/-- what a block keeps: the list at L so far -/
structure BlkI (c : Cq) (σ : L2.St) (ρ : Rho) (G H : Hp) (L : Addr) (acc : List D) : Prop where
  st : StOk c σ ρ G H
  fg : G L = none
  no : NotOwn σ ρ L
  al : ∃ us, H L = some (.lst us) ∧ All c.K G acc us
theorem BlkI.step {σ : L2.St} {ρ ρ' : Rho} {G H G' H' : Hp} {L : Addr} {acc : List D} (B : BlkI c σ ρ G H L acc) (S : StOk c σ ρ' G' H') (g : Step σ ρ ρ' G H G' H') : BlkI c σ ρ' G' H' L acc := by
  obtain ⟨us, h1, h2⟩ := B.al
  refine ⟨S, ?_, g.o L B.no, us, g.h L _ h1 B.no, h2.mono g.g⟩
  cases e : G' L with
  | none => rfl
  | some o =>
    rcases g.n L o e B.no with z | z
    · rw [B.fg] at z; cases z
    · rw [h1] at z; cases z
theorem wipe_wipe {σ σ3 : L2.St} (e3 : wipe σ3 vs = wipe (wipe σ vs) vs) : wipe σ3 vs = wipe σ vs := by
  rw [e3]
  apply List.ext_getElem?
  intro j
  by_cases hj : j ∈ vs
  · have key : ∀ (σ : L2.St) (ws : List Nat), j ∈ ws → (wipe σ ws)[j]? = if j < σ.length then some none else none := by
      intro σ ws
      induction ws with
      | nil => intro h; cases h
      | cons q ws ih2 =>
        intro h
        show ((wipe σ ws).set q none)[j]? = _
        rw [List.getElem?_set, wipe_length]
        by_cases hq : q = j
        · subst hq; rw [if_pos rfl]
        · rw [if_neg hq]
          rcases List.mem_cons.mp h with h | h
          · exact absurd h.symm hq
          · exact ih2 h
    rw [key _ _ hj, key _ _ hj, wipe_length]
  · rw [wipe_out hj]
/-- what a turn of the block leaves, told of the slots outside -/
theorem Step.out {σ σ3 : L2.St} {ρ ρ3 ρ5 : Rho} {G H G5 H5 : Hp} (e3 : wipe σ3 vs = wipe σ vs) (n3 : ∀ l, NotOwn σ ρ l → NotOwn σ3 ρ3 l) (g5 : Step σ3 ρ3 ρ5 G H G5 H5) : Step σ ρ (wipeR ρ5 vs) G H G5 H5 :=
  ⟨g5.g, fun l u e n => g5.h l u e (n3 l n), (fun l u e n => g5.n l u e (n3 l n)), g5.d, fun l n => notOwn_back (g5.o l (n3 l n)) e3⟩
theorem map_loop {σ : L2.St} {ρ1 : Rho} {G0 G1 H1 : Hp} {L : Addr} {acc0 : List D} {J : It} {ds : List D} {k : List D → Rho → Prop} {Qd : Hp → Prop} (hg : DGp c.blk vs g wg) (ht : DT c.blk tt wt) (he : DE c.blk te we)
    {F : Rho → Prop} (Y : YS c σ J G0 ds F) (g0 : Same G0 G1) (hF0 : F ρ1) (B0 : BlkI c σ ρ1 G1 H1 L acc0) (hE : c.E0 L = none) (hn0 : ∀ (i : Nat) s, ρ1[i]? = some (some s) → i ∉ vs) (hw : wMap F wg wt we vs ds ρ1 acc0 k)
    (kk : ∀ acc ρ' G' H', k acc ρ' → BlkI c σ ρ' G' H' L acc → Step σ ρ1 ρ' G1 (rm H1 L) G' H' → Qd H') :
    ∃ W : Nat → Nat → Hp → Prop, (∃ m, W 0 m H1) ∧ ∀ i m H, W i m H → (J.stop i H ∧ Qd H) ∨ (J.go i H ∧ ∃ Nx : Hp → Prop, (∀ H', Nx H' → ∃ m', m' < m ∧ W (i + 1) m' H') ∧ ∀ x H', J.yld i H x H' → g x (wipe σ vs) H' fun σ2 H2 => wipe σ2 vs = wipe σ vs ∧ tt σ2 H2 fun b H3 =>
      if b = true then te σ2 H3 fun y H4 => ∃ acc, H4 L = some (.lst acc) ∧ acc.length < sizeLine ∧ Nx (upd H4 L (.lst (acc ++ [y]))) else Nx H3) := by
  refine ⟨fun i m H' => i + m = ds.length ∧ ∃ ρ' G' acc, BlkI c σ ρ' G' H' L acc ∧ (∀ (i : Nat) s, ρ'[i]? = some (some s) → i ∉ vs) ∧ Step σ ρ1 ρ' G1 (rm H1 L) G' H' ∧ F ρ' ∧ wMap F wg wt we vs (ds.drop i) ρ' acc k,
    ⟨ds.length, by omega, ρ1, G1, acc0, B0, hn0, .rmr, hF0, hw⟩, fun i m H' h => ?_⟩
  obtain ⟨him, ρ', G', acc, B, hn, st, hF, hl⟩ := h
  by_cases hm : m = 0
  · subst hm
    left
    have e : i = ds.length := by omega
    subst e
    rw [List.drop_length] at hl
    exact ⟨Y.stop ρ' G' H' B.st (g0.trans st.g) hF, kk acc ρ' G' H' hl B st⟩
  · right
    have hlt : i < ds.length := by omega
    refine ⟨Y.go i ρ' G' H' hlt B.st (g0.trans st.g) hF, fun H2 => ∃ ρ2 G2 acc2, BlkI c σ ρ2 G2 H2 L acc2 ∧ (∀ (i : Nat) s, ρ2[i]? = some (some s) → i ∉ vs) ∧ Step σ ρ1 ρ2 G1 (rm H1 L) G2 H2 ∧ F ρ2 ∧ wMap F wg wt we vs (ds.drop (i + 1)) ρ2 acc2 k,
      fun H2 ⟨ρ2, G2, acc2, q1, q2, q3, q4, q5⟩ => ⟨m - 1, by omega, by omega, ρ2, G2, acc2, q1, q2, q3, q4, q5⟩, fun v H2 hy => ?_⟩
    have hd : ds[i]? = some ds[i] := List.getElem?_eq_getElem hlt
    rw [List.drop_eq_getElem_cons hlt] at hl
    obtain ⟨G2, S2, st2, i2⟩ := Y.yld i ρ' G' H' v H2 _ B.st (g0.trans st.g) hF hd hy
    have B2 := B.step S2 st2
    refine hg (wipe σ vs) ρ' G2 H2 v _ _ _ (S2.wipe hn).blk i2 hl fun σ3 ρ3 p3 S3 e3 n3 => ?_
    have e3' : wipe σ3 vs = wipe σ vs := wipe_wipe e3
    have n3' : ∀ l, NotOwn σ ρ' l → NotOwn σ3 ρ3 l := fun l n => n3 l (notOwn_wipe n hn)
    refine ⟨e3', ht σ3 ρ3 G2 H2 _ _ S3 p3 fun bb ρ4 G4 H4 p4 S4 g4 => ?_⟩
    have B3 : BlkI c σ3 ρ3 G2 H2 L acc := ⟨S3.unblk, B2.fg, n3' L B2.no, B2.al⟩
    have B4 : BlkI c σ3 ρ4 G4 H4 L acc := B3.step S4.unblk g4
    have wn : ∀ {ρ5 : Rho} (i : Nat) s, (wipeR ρ5 vs)[i]? = some (some s) → i ∉ vs := fun {ρ5} i s e => (wipeR_get e).2
    cases bb with
    | false =>
      rw [if_neg Bool.false_ne_true]
      exact ⟨wipeR ρ4 vs, G4, acc, ⟨B4.st.back e3', B4.fg, notOwn_back B4.no e3', B4.al⟩, wn, (st.trans st2).trans (.out e3' n3' g4), (p4.2 rfl).1, (p4.2 rfl).2⟩
    | true =>
      rw [if_pos rfl]
      refine he σ3 ρ4 G4 H4 _ _ S4 (p4.1 rfl) fun y dy ρ5 G5 H5 p5 S5 g5 i5 => ?_
      have B5 : BlkI c σ3 ρ5 G5 H5 L acc := B4.step S5.unblk g5
      obtain ⟨us, q1, q2⟩ := B5.al
      exact ⟨us, q1, by rw [q2.1]; exact p5.1, wipeR ρ5 vs, G5, acc ++ [dy], ⟨(B5.st.back e3').side B5.fg hE (notOwn_back B5.no e3'), B5.fg, notOwn_back B5.no e3', _, upd_same, q2.snoc i5⟩, wn, ((st.trans st2).trans (.out e3' n3' (g4.trans g5))).rmp, p5.2.1, p5.2.2⟩
theorem dx_lc (hi : DI c wi wii) (hg : DGp c.blk vs g wg) (ht : DT c.blk tt wt) (he : DE c.blk te we) : DX c (tLc wi g tt te vs) (wLc wii wg wt we vs) := fun σ ρ G H Q P S hw k => hi σ ρ G H _ _ S hw fun J ds ρ1 G1 H1 p1 S1 g1 Y => by
  intro L hL
  have hE := S1.efree hL
  refine map_loop hg ht he Y.ys (Same.refl _) trivial ⟨S1.newH hL, S1.free hL, fresh_notOwn S1 hL, [], upd_same, .nil⟩ hE (noneAt_of p1.1) p1.2 fun acc ρ' G' H' pk B st => ?_
  obtain ⟨us, q1, q2⟩ := B.al
  have st' : Step σ ρ1 ρ' G1 H1 G' H' := by
    have e : rm (upd H1 L (.lst [])) L = H1 := by
      funext a
      unfold rm
      by_cases ha : a = L
      · rw [if_pos ha, ha, hL]
      · rw [if_neg ha, upd_ne ha]
    rw [e] at st
    exact st
  exact k _ _ ρ' G' H' pk B.st (g1.trans st') (.ow q1 B.fg hE B.no (g1.d L hL) q2)
theorem dx_lcO {i : Nat} (hg : DGp c.blk vs g wg) (ht : DT c.blk tt wt) (he : DE c.blk te we) : DX c (tLc (iList c.K (tVar i)) g tt te vs) (wLcO i wg wt we vs) := fun σ ρ G H Q P S hw k => by
  obtain ⟨ds, e, p⟩ := own_g (C := fun ds => noneAt ρ vs ∧ wMap (ownF i ds) wg wt we vs ds ρ [] fun acc ρ2 => P (.ow acc) ρ2) hw
  obtain ⟨l, us, q1, q2, _⟩ := own_at S e
  refine ⟨_, q1, l, rfl, ⟨us, .of q2⟩, fun L hL => ?_⟩
  have hE := S.efree hL
  refine map_loop hg ht he (ys_own (G0 := G) q1) (Same.refl _) (Rho.g_of e) ⟨S.newH hL, S.free hL, fresh_notOwn S hL, [], upd_same, .nil⟩ hE (noneAt_of p.1) p.2 fun acc ρ' G' H' pk B st => ?_
  obtain ⟨us, q1, q2⟩ := B.al
  have st' : Step σ ρ ρ' G H G' H' := by
    have e : rm (upd H L (.lst [])) L = H := by
      funext a
      unfold rm
      by_cases ha : a = L
      · rw [if_pos ha, ha, hL]
      · rw [if_neg ha, upd_ne ha]
    rw [e] at st
    exact st
  exact k _ _ ρ' G' H' pk B.st st' (.ow q1 B.fg hE B.no hL q2)
variable {scope : Scope} {own : List (Str × Nat)}
theorem pd_lcO (i : Nat) {px : Pos} (hN : X.N.Nodup) (ok : BlkOk X.N X.env.scope scope own)
    (hg : ∀ (s : Shared) (H : Hp) (C : Addr) (cl : List (Str × Addr)) (fp : List Addr), PDGp (X.blk s H scope (compEnvC scope cl C X.env) fp) c.blk (own.map (·.2)) tg g wg) (ht : ∀ (s : Shared) (H : Hp) (C : Addr) (cl : List (Str × Addr)) (fp : List Addr), PDTs (X.blk s H scope (compEnvC scope cl C X.env) fp) c.blk ifs tt wt)
    (he : ∀ (s : Shared) (H : Hp) (C : Addr) (cl : List (Str × Addr)) (fp : List Addr), PDE (X.blk s H scope (compEnvC scope cl C X.env) fp) c.blk elt te we) (hi : X.N[i]? = some x := by rfl) (hv : Vis X.env.scope x := by first | exact Or.inl rfl | exact Or.inr (Or.inl rfl) | exact Or.inr (Or.inr rfl)) (hd : (x == ("__debug__" : Str)) = false := by decide)
    (hcd : (x == ("__classdict__" : Str)) = false := by decide) (hK : X.K = c.K := by rfl) (hc : X.calm = true := by rfl) (hs : ∀ y, foldedSetIterable (.Name x px) X.env y = pure y := by intro _; rfl) : PDX X c (.ListComp elt [⟨tg, .Name x px, ifs, 0⟩] scope pos) (tLc (iList c.K (tVar i)) g tt te (own.map (·.2))) (wLcO i wg wt we (own.map (·.2))) := by
 rw [← hK]
 exact ⟨pe_lc hc hN (pi_list (pv i hi hv hd hcd)) ok (fun s H C cl fp => (hg s H C cl fp).p) (fun s H C cl fp => (ht s H C cl fp).p) (fun s H C cl fp => (he s H C cl fp).p) hs,
    by rw [hK]; exact dx_lcO (hg {} (fun _ => none) 0 [] []).d (ht {} (fun _ => none) 0 [] []).d (he {} (fun _ => none) 0 [] []).d⟩
theorem pd_lc (hN : X.N.Nodup) (hi : PDI X c tg iter wi wii) (ok : BlkOk X.N X.env.scope scope own)
    (hg : ∀ (s : Shared) (H : Hp) (C : Addr) (cl : List (Str × Addr)) (fp : List Addr), PDGp (X.blk s H scope (compEnvC scope cl C X.env) fp) c.blk (own.map (·.2)) tg g wg) (ht : ∀ (s : Shared) (H : Hp) (C : Addr) (cl : List (Str × Addr)) (fp : List Addr), PDTs (X.blk s H scope (compEnvC scope cl C X.env) fp) c.blk ifs tt wt)
    (he : ∀ (s : Shared) (H : Hp) (C : Addr) (cl : List (Str × Addr)) (fp : List Addr), PDE (X.blk s H scope (compEnvC scope cl C X.env) fp) c.blk elt te we) (hc : X.calm = true := by rfl) (hs : ∀ x, foldedSetIterable iter X.env x = pure x := by intro _; rfl) :
    PDX X c (.ListComp elt [⟨tg, iter, ifs, 0⟩] scope pos) (tLc wi g tt te (own.map (·.2))) (wLc wii wg wt we (own.map (·.2))) :=
  ⟨pe_lc hc hN hi.p ok (fun s H C cl fp => (hg s H C cl fp).p) (fun s H C cl fp => (ht s H C cl fp).p) (fun s H C cl fp => (he s H C cl fp).p) hs,
    dx_lc hi.d (hg {} (fun _ => none) 0 [] []).d (ht {} (fun _ => none) 0 [] []).d (he {} (fun _ => none) 0 [] []).d⟩
/-- y = [..] on one line -/
theorem pd_setLc (i : Nat) {py spos : Pos} (hN : X.N.Nodup) (hy : X.N[i]? = some y) (hyl : X.env.scope.names.lookup y = some .local) (hsw : swapsWith (.ListComp elt [⟨tg, iter, ifs, 0⟩] scope pos) (some (.Name y py)) spos.line X.env = pure true) (hi : PDI X c tg iter wi wii) (ok : BlkOk X.N X.env.scope scope own)
    (hg : ∀ (s : Shared) (H : Hp) (C : Addr) (cl : List (Str × Addr)) (fp : List Addr), PDGp (X.blk s H scope (compEnvC scope cl C X.env) fp) c.blk (own.map (·.2)) tg g wg) (ht : ∀ (s : Shared) (H : Hp) (C : Addr) (cl : List (Str × Addr)) (fp : List Addr), PDTs (X.blk s H scope (compEnvC scope cl C X.env) fp) c.blk ifs tt wt)
    (he : ∀ (s : Shared) (H : Hp) (C : Addr) (cl : List (Str × Addr)) (fp : List Addr), PDE (X.blk s H scope (compEnvC scope cl C X.env) fp) c.blk elt te we) (hc : X.calm = true := by rfl) (hs : ∀ x, foldedSetIterable iter X.env x = pure x := by intro _; rfl) :
    PDS X c (.Assign [.Name y py] (.ListComp elt [⟨tg, iter, ifs, 0⟩] scope pos) spos) (tAsg (tLc wi g tt te (own.map (·.2))) (gName i)) (wSet i (wLc wii wg wt we (own.map (·.2)))) :=
  ⟨ps_setLc hc hN hy hyl hsw hi.p ok (fun s H C cl fp => (hg s H C cl fp).p) (fun s H C cl fp => (ht s H C cl fp).p) (fun s H C cl fp => (he s H C cl fp).p) hs,
    ds_set (dx_lc hi.d (hg {} (fun _ => none) 0 [] []).d (ht {} (fun _ => none) 0 [] []).d (he {} (fun _ => none) 0 [] []).d)⟩
theorem pd_setLcE (i : Nat) {py spos : Pos} (hN : X.N.Nodup) (hy : X.N[i]? = some y) (hyl : X.env.scope.names.lookup y = some .local) (hsw : swapsWith (.ListComp elt [⟨tg, iter, ifs, 0⟩] scope pos) (some (.Name y py)) spos.line X.env = pure true) (hi : PDI X c tg iter wi wii) (ok : BlkOk X.N X.env.scope scope own)
    (hg : ∀ (s : Shared) (H : Hp) (C : Addr) (cl : List (Str × Addr)) (fp : List Addr), PDGp (X.blk s H scope (compEnvC scope cl C X.env) fp) c.blk (own.map (·.2)) tg g wg) (ht : ∀ (s : Shared) (H : Hp) (C : Addr) (cl : List (Str × Addr)) (fp : List Addr), PDTs (X.blk s H scope (compEnvC scope cl C X.env) fp) c.blk ifs tt wt)
    (he : ∀ (s : Shared) (H : Hp) (C : Addr) (cl : List (Str × Addr)) (fp : List Addr), PDE (X.blk s H scope (compEnvC scope cl C X.env) fp) c.blk elt te we) (hc : X.calm = true := by rfl) (hs : ∀ x, foldedSetIterable iter X.env x = pure x := by intro _; rfl) :
    PDS X c (.Assign [.Name y py] (.ListComp elt [⟨tg, iter, ifs, 0⟩] scope pos) spos) (tAsg (tLc wi g tt te (own.map (·.2))) (gName i)) (wSet i (wSh (wKn (wLc wii wg wt we (own.map (·.2)))))) :=
  ⟨ps_setLc hc hN hy hyl hsw hi.p ok (fun s H C cl fp => (hg s H C cl fp).p) (fun s H C cl fp => (ht s H C cl fp).p) (fun s H C cl fp => (he s H C cl fp).p) hs,
    ds_set (fun σ ρ G H Q P S hw k => (dx_lc hi.d (hg {} (fun _ => none) 0 [] []).d (ht {} (fun _ => none) 0 [] []).d (he {} (fun _ => none) 0 [] []).d).e σ ρ G H Q _ S hw fun v d ρ' G' H' p S' g i => k v _ ρ' G' H' p S' g (.sh i))⟩
/-! ### two clauses -/
def wMap2 (wg : WG) (wt : WT) (wi1 : WI) (wg1 : WG) (wt1 : WT) (we : WE) (vs vs1 : List Nat) : List D → Rho → List D → (List D → Rho → Prop) → Prop
  | [], ρ, acc, k => k acc ρ
  | d :: ds, ρ, acc, k => wg d ρ fun ρ2 => wt ρ2 fun b ρ3 => (b = true → wi1 ρ3 fun ds1 ρ4 => noneAt ρ4 vs1 ∧ wMap yesF wg1 wt1 we vs1 ds1 ρ4 acc fun acc2 ρ5 => wMap2 wg wt wi1 wg1 wt1 we vs vs1 ds (wipeR ρ5 vs) acc2 k) ∧
      (b = false → wMap2 wg wt wi1 wg1 wt1 we vs vs1 ds (wipeR ρ3 vs) acc k)
def wLc2 (wi : WI) (wg : WG) (wt : WT) (wi1 : WI) (wg1 : WG) (wt1 : WT) (we : WE) (vs vs1 : List Nat) : WX := fun ρ P => wi ρ fun ds ρ1 => noneAt ρ1 vs ∧ wMap2 wg wt wi1 wg1 wt1 we vs vs1 ds ρ1 [] fun acc ρ2 => P (.ow acc) ρ2
theorem dx_lc2 {vs1 : List Nat} (hi : DI c wi wii) (hg : DGp c.blk vs g wg) (ht : DT c.blk tt wt) (hi1 : DI c.blk wi1 wii1) (hg1 : DGp c.blk vs1 g1 wg1) (ht1 : DT c.blk tt1 wt1) (he : DE c.blk te we) : DX c (tLc2 wi g tt wi1 g1 tt1 te vs vs1) (wLc2 wii wg wt wii1 wg1 wt1 we vs vs1) := fun σ ρ G H Q P S hw k => hi σ ρ G H _ _ S hw fun J ds ρ1 G1 H1 p1 S1 g1 Y => by
  intro L hL
  have hE := S1.efree hL
  refine ⟨fun i m H' => i + m = ds.length ∧ ∃ ρ' G' acc, BlkI c σ ρ' G' H' L acc ∧ (∀ (i : Nat) s, ρ'[i]? = some (some s) → i ∉ vs) ∧ Step σ ρ1 ρ' G1 (rm (upd H1 L (.lst [])) L) G' H' ∧ wMap2 wg wt wii1 wg1 wt1 we vs vs1 (ds.drop i) ρ' acc fun acc ρ2 => P (.ow acc) ρ2,
    ⟨ds.length, by omega, ρ1, G1, [], ⟨S1.newH hL, S1.free hL, fresh_notOwn S1 hL, [], upd_same, .nil⟩, noneAt_of p1.1, .rmr, p1.2⟩, fun i m H' h => ?_⟩
  obtain ⟨him, ρ', G', acc, B, hn, st, hl⟩ := h
  by_cases hm : m = 0
  · subst hm
    left
    have e : i = ds.length := by omega
    subst e
    rw [List.drop_length] at hl
    refine ⟨Y.stop H' (st.g.trans B.st.gh), ?_⟩
    obtain ⟨us, q1, q2⟩ := B.al
    have st' : Step σ ρ1 ρ' G1 H1 G' H' := by
      have e : rm (upd H1 L (.lst [])) L = H1 := by
        funext a
        unfold rm
        by_cases ha : a = L
        · rw [if_pos ha, ha, hL]
        · rw [if_neg ha, upd_ne ha]
      rw [e] at st
      exact st
    exact k _ _ ρ' G' H' hl B.st (g1.trans st') (.ow q1 B.fg hE B.no (g1.d L hL) q2)
  · right
    have hlt : i < ds.length := by omega
    refine ⟨Y.go i H' hlt (st.g.trans B.st.gh), fun H2 => ∃ ρ2 G2 acc2, BlkI c σ ρ2 G2 H2 L acc2 ∧ (∀ (i : Nat) s, ρ2[i]? = some (some s) → i ∉ vs) ∧ Step σ ρ1 ρ2 G1 (rm (upd H1 L (.lst [])) L) G2 H2 ∧ wMap2 wg wt wii1 wg1 wt1 we vs vs1 (ds.drop (i + 1)) ρ2 acc2 fun acc ρ2 => P (.ow acc) ρ2,
      fun H2 ⟨ρ2, G2, acc2, q1, q2, q3, q4⟩ => ⟨m - 1, by omega, by omega, ρ2, G2, acc2, q1, q2, q3, q4⟩, fun v H2 hy => ?_⟩
    have hd : ds[i]? = some ds[i] := List.getElem?_eq_getElem hlt
    rw [List.drop_eq_getElem_cons hlt] at hl
    obtain ⟨G2, S2, st2, i2⟩ := yld_in B.st Y st.g hd hy
    have B2 := B.step S2 st2
    refine hg (wipe σ vs) ρ' G2 H2 v _ _ _ (S2.wipe hn).blk i2 hl fun σ3 ρ3 p3 S3 e3 n3 => ?_
    have e3' : wipe σ3 vs = wipe σ vs := wipe_wipe e3
    have n3' : ∀ l, NotOwn σ ρ' l → NotOwn σ3 ρ3 l := fun l n => n3 l (notOwn_wipe n hn)
    refine ⟨e3', ht σ3 ρ3 G2 H2 _ _ S3 p3 fun bb ρ4 G4 H4 p4 S4 g4 => ?_⟩
    have B3 : BlkI c σ3 ρ3 G2 H2 L acc := ⟨S3.unblk, B2.fg, n3' L B2.no, B2.al⟩
    have B4 : BlkI c σ3 ρ4 G4 H4 L acc := B3.step S4.unblk g4
    have wn : ∀ {ρ5 : Rho} (i : Nat) s, (wipeR ρ5 vs)[i]? = some (some s) → i ∉ vs := fun {ρ5} i s e => (wipeR_get e).2
    cases bb with
    | false =>
      rw [if_neg Bool.false_ne_true]
      exact ⟨wipeR ρ4 vs, G4, acc, ⟨B4.st.back e3', B4.fg, notOwn_back B4.no e3', B4.al⟩, wn, (st.trans st2).trans (.out e3' n3' g4), p4.2 rfl⟩
    | true =>
      rw [if_pos rfl]
      refine hi1 σ3 ρ4 G4 H4 _ _ S4 (p4.1 rfl) fun J1 ds1 ρ5 G5 H5 p5 S5 g5 Y1 => ?_
      have B5 : BlkI c σ3 ρ5 G5 H5 L acc := B4.step S5.unblk g5
      exact map_loop hg1 ht1 he (Yields.ys (c := c) Y1) (Same.refl _) trivial B5 hE (noneAt_of p5.1) p5.2 fun acc2 ρ6 G6 H6 pk B6 st6 =>
        ⟨wipeR ρ6 vs, G6, acc2, ⟨B6.st.back e3', B6.fg, notOwn_back B6.no e3', B6.al⟩, wn, (st.trans st2).rmt (.out e3' n3' ((Step.rmr.trans (g4.trans g5)).rmt st6)), pk⟩
theorem pd_lc2 {vs1 : List Nat} (hN : X.N.Nodup) (hi : PDI X c tg iter wi wii) (ok : BlkOk X.N X.env.scope scope own) (hv : ∀ i ∈ vs1, i ∈ own.map (·.2))
    (hg : ∀ (s : Shared) (H : Hp) (C : Addr) (cl : List (Str × Addr)) (fp : List Addr), PDGp (X.blk s H scope (compEnvC scope cl C X.env) fp) c.blk (own.map (·.2)) tg g wg) (ht : ∀ (s : Shared) (H : Hp) (C : Addr) (cl : List (Str × Addr)) (fp : List Addr), PDTs (X.blk s H scope (compEnvC scope cl C X.env) fp) c.blk ifs tt wt)
    (hi1 : ∀ (s : Shared) (H : Hp) (C : Addr) (cl : List (Str × Addr)) (fp : List Addr), PDI (X.blk s H scope (compEnvC scope cl C X.env) fp) c.blk tg1 iter1 wi1 wii1)
    (hg1 : ∀ (s : Shared) (H : Hp) (C : Addr) (cl : List (Str × Addr)) (fp : List Addr), PDGp (X.blk s H scope (compEnvC scope cl C X.env) fp) c.blk vs1 tg1 g1 wg1) (ht1 : ∀ (s : Shared) (H : Hp) (C : Addr) (cl : List (Str × Addr)) (fp : List Addr), PDTs (X.blk s H scope (compEnvC scope cl C X.env) fp) c.blk ifs1 tt1 wt1)
    (he : ∀ (s : Shared) (H : Hp) (C : Addr) (cl : List (Str × Addr)) (fp : List Addr), PDE (X.blk s H scope (compEnvC scope cl C X.env) fp) c.blk elt te we) (hc : X.calm = true := by rfl) (hs : ∀ x, foldedSetIterable iter X.env x = pure x := by intro _; rfl) (hs1 : ∀ env x, foldedSetIterable iter1 env x = pure x := by intro _ _; rfl) :
    PDX X c (.ListComp elt [⟨tg, iter, ifs, 0⟩, ⟨tg1, iter1, ifs1, 0⟩] scope pos) (tLc2 wi g tt wi1 g1 tt1 te (own.map (·.2)) vs1) (wLc2 wii wg wt wii1 wg1 wt1 we (own.map (·.2)) vs1) :=
  ⟨pe_lc2 hc hN hi.p ok hv (fun s H C cl fp => (hg s H C cl fp).p) (fun s H C cl fp => (ht s H C cl fp).p) (fun s H C cl fp => (hi1 s H C cl fp).p) (fun s H C cl fp => (hg1 s H C cl fp).p) (fun s H C cl fp => (ht1 s H C cl fp).p) (fun s H C cl fp => (he s H C cl fp).p) hs hs1,
    dx_lc2 hi.d (hg {} (fun _ => none) 0 [] []).d (ht {} (fun _ => none) 0 [] []).d (hi1 {} (fun _ => none) 0 [] []).d (hg1 {} (fun _ => none) 0 [] []).d (ht1 {} (fun _ => none) 0 [] []).d (he {} (fun _ => none) 0 [] []).d⟩
/-! ### *xs in a display -/
@[simp] def waStar (w : WE) (ws : WA) : WA := fun ρ P => w ρ fun d ρ1 => match d with
  | .tup xs => ws ρ1 fun ds ρ2 => P (xs ++ ds) ρ2
  | .lst xs => ws ρ1 fun ds ρ2 => P (xs ++ ds) ρ2
  | _ => False
theorem pda_star {sp : Pos} (ha : PDE X c a ta wa) (hr : PDA X c es ts ws) (hK : X.K = c.K := by rfl) (hs : starEach (.Starred a sp :: es) X.env = (true, eval a X.env) :: starEach es X.env := by rfl) : PDA X c (.Starred a sp :: es) (StX.tStar c.K ta ts) (waStar wa ws) := by
 rw [← hK]
 exact ⟨StX.pa_star ha.p hr.p hs, fun σ ρ G H Q P S hw k =>
  ha.d σ ρ G H _ _ S hw fun v d ρ1 G1 H1 p1 S1 g1 i1 => by
    rw [hK]
    cases d <;> first | exact p1.elim | skip
    · cases i1 with
      | tup h1 h2 h3 =>
        exact ⟨_, _, rfl, .inl (seqT_mono S1.gh h1), hr.d σ ρ1 G1 H1 _ _ S1 p1 fun vs ds ρ2 G2 H2 p2 S2 g2 i2 => k _ _ ρ2 G2 H2 p2 S2 (g1.trans g2) ((All.mono g2.g ⟨h2, h3⟩).append i2)⟩
    · cases i1 with
      | lst h1 h2 h3 =>
        exact ⟨_, _, rfl, .inr (.of (S1.gh _ _ h1)), hr.d σ ρ1 G1 H1 _ _ S1 p1 fun vs ds ρ2 G2 H2 p2 S2 g2 i2 => k _ _ ρ2 G2 H2 p2 S2 (g1.trans g2) ((All.mono g2.g ⟨h2, h3⟩).append i2)⟩⟩
end
end DL
end

section
set_option maxRecDepth 100000
set_option maxHeartbeats 1000000
namespace DL
open PySem PySem.Spec PyProof.Rows L2
/-! ### the making of an instance -/
abbrev SpcI := List D → (List Str → List D → Prop) → XPr → Prop
def SpI (K : PySem.W.Frag) (C : Addr) (n : Nat) (spec : SpcI) : Sp := fun vs H Q E => ∃ (G : Hp) (x dx : Addr) (ds : List D) (us : List V) (P : List Str → List D → Prop) (XP : XPr), vs = .ref x :: us ∧ Same G H ∧ G x = none ∧ H x = some (.ins C dx []) ∧ All K G ds us ∧ ds.length = n ∧ spec ds P XP ∧
  (∀ nm xs dx' fs H', P nm xs → (∀ a u, H a = some u → a ≠ x → H' a = some u) → H' x = some (.ins C dx' fs) → fs.map (·.1) = nm → All K (extG G H H') xs (fs.map (·.2)) → Q .non H') ∧
  (∀ C' nm xs dd (us : List V) H', XP C' nm xs → (∀ a u, H a = some u → a ≠ x → H' a = some u) → H dd = none → H' dd = some (.xd (nm.zip us)) → All K (extG G H H') xs us → E (.ref C') (some dd) H')
def rhoI (N : List Str) (C : Addr) (ds : List D) : Rho := some (.me C [] []) :: (ds.map (fun d => some (.sh d)) ++ List.replicate (N.length - (ds.length + 1)) none)
theorem get_tail {ds : List D} {m i : Nat} {s : Sl} (h : (ds.map (fun d => some (Sl.sh d)) ++ List.replicate m none)[i]? = some (some s)) : ∃ d, ds[i]? = some d ∧ s = .sh d := by
  by_cases hi : i < ds.length
  · rw [List.getElem?_append_left (by rw [List.length_map]; exact hi), List.getElem?_map] at h
    cases e : ds[i]? with
    | none => rw [e] at h; cases h
    | some d => rw [e] at h; cases h; exact ⟨d, rfl, rfl⟩
  · rw [List.getElem?_append_right (by rw [List.length_map]; omega), List.getElem?_replicate] at h
    split at h <;> cases h
theorem entryM {c : Cq} {N : List Str} {x : Addr} {us : List V} {ds : List D} {s0 : Sl} (hg : Same c.G0 c.E0) (hm : c.mu = some x) (hx : ∃ o, c.E0 x = some o) (al : All c.K c.G0 ds us) (h0 : SlOk c.K c.G0 c.E0 s0 (.ref x)) (ho : s0.isOw = true) (hmu : s0.isMu = true) :
    StOk c (L2.start N (.ref x :: us)) (some s0 :: (ds.map (fun d => some (.sh d)) ++ List.replicate (N.length - (ds.length + 1)) none)) c.G0 c.E0 where
  gg := Same.refl _
  gh := hg
  eh := fun a o e _ => e
  mh := fun a m => by rw [hm] at m; cases m; exact hx
  nw := fun a o e => .inl e
  len := by simp [L2.start, al.1]
  sl := fun i s e => by
    cases i with
    | zero =>
      simp only [List.getElem?_cons_zero, Option.some.injEq] at e
      subst e
      exact ⟨.ref x, rfl, h0, fun l _ q => by cases q; exact .inr ⟨hmu, hm⟩⟩
    | succ i =>
      rw [List.getElem?_cons_succ] at e
      obtain ⟨d, h1, rfl⟩ := get_tail e
      obtain ⟨v, h2, h3⟩ := al.get h1
      exact ⟨v, get_start (N := N) (vs := .ref x :: us) (i := i + 1) (by rw [List.getElem?_cons_succ]; exact h2), h3, fun l o => by cases o⟩
  mo := fun i s e m l hl p hp => by
    cases i with
    | zero =>
      have : (L2.start N (V.ref x :: us))[0]? = some (some (V.ref x)) := get_start rfl
      rw [this] at hl
      cases hl
      rw [hm] at hp
      cases hp
      rfl
    | succ i =>
      rw [List.getElem?_cons_succ] at e
      obtain ⟨d, h1, rfl⟩ := get_tail e
      cases m
  dj := fun i j s s' hij e1 e2 o1 o2 => by
    cases i with
    | zero =>
      cases j with
      | zero => exact absurd rfl hij
      | succ j =>
        rw [List.getElem?_cons_succ] at e2
        obtain ⟨d, h1, rfl⟩ := get_tail e2
        cases o2
    | succ i =>
      rw [List.getElem?_cons_succ] at e1
      obtain ⟨d, h1, rfl⟩ := get_tail e1
      cases o1
abbrev cqM (K : PySem.W.Frag) (G H : Hp) (x : Addr) (E : XK) (XP : XPr)
    (ex : ∀ C nm ds dd (vs : List V) G' H', XP C nm ds → Same G G' → Same G' H' → (∀ a o, H a = some o → (some x) ≠ some a → H' a = some o) → (∀ a o, G' a = some o → G a = some o ∨ H a = none) →
    H dd = none → H' dd = some (.xd (nm.zip vs)) → All K G' ds vs → E (.ref C) (some dd) H') : Cq := ⟨K, G, H, some x, E, XP, ex⟩
theorem ext_subG {G G' H H' : Hp} (g1 : Same G G') (g2 : Same G' H') (nw : ∀ a o, G' a = some o → G a = some o ∨ H a = none) : Same G' (extG G H H') := fun a u e => by
  cases ha : H a with
  | none => rw [ext_new ha]; exact g2 a u e
  | some o =>
    rw [ext_old ha]
    rcases nw a u e with z | z
    · exact z
    · rw [ha] at z; cases z
section
variable {P : Program} {w : World} {K : PySem.W.Frag} {mg : Str → Option Value} {base : Heap}
/-- what an __init__ has made -/
def wMade (C : Addr) (P : List Str → List D → Prop) : Rho → Prop := fun ρ => match Rho.g ρ 0 with
  | some (.me C' nm xs) => C' = C ∧ P nm xs
  | _ => False
theorem okI {x qual : Str} {st : Stmt} {f C : Addr} {fd : FuncData} {N ps : List Str} {k n : Nat} {spec : SpcI} (F : Fun K x qual st f fd) (S : FnScope N ps (defScope st)) (hn : ps.length = n + 1)
    (hbody : ∀ (cdv : Value) (A : Around) (outer : List Env) (s : Shared) (H : Hp) (E : XK) (G : Hp) (x0 : Addr) (XP : XPr) ex, Room k (A.deeper (envOfC qual (defScope st) s.heap.objs.size f cdv)) →
      Takes (cxOf (L2.CX P w) P w K mg base N qual (defScope st) f cdv A outer s H E) (fun cls d _ H9 => E cls d H9) →
      ∃ t wb, PDSs (cxOf (L2.CX P w) P w K mg base N qual (defScope st) f cdv A outer s H E) (cqM K G H x0 E XP ex) (defBody st) t wb ∧
        ∀ ds Pv, ds.length = n → spec ds Pv XP → wb (rhoI N C ds) { nx := wMade C Pv, rt := fun _ _ => False }) :
    FnOk P w K mg base (L2.CX P w) (k + 1) f fd ps (SpI K C n spec) := by
  refine F.okX S (fun vs H Q E h => ?_) (fun cdv A outer s H vs Q E hr h => ?_)
  · obtain ⟨G, x0, dx, ds, us, Pv, XP, rfl, h1, h2, h3, h4, h5, _⟩ := h
    rw [List.length_cons, h4.1, h5, hn]
  · obtain ⟨G, x0, dx, ds, us, Pv, XP, rfl, h1, h2, h3, h4, h5, h6, h7, h8⟩ := h
    have ex : ∀ C nm ds dd (vs : List V) G' H', XP C nm ds → Same G G' → Same G' H' → (∀ a o, H a = some o → (some x0) ≠ some a → H' a = some o) → (∀ a o, G' a = some o → G a = some o ∨ H a = none) →
        H dd = none → H' dd = some (.xd (nm.zip vs)) → All K G' ds vs → E (.ref C) (some dd) H' := fun C nm ds dd vs G' H' x g1 g2 e1 nw e2 e3 al =>
      h8 C nm ds dd vs H' x (fun a o e ne => e1 a o e (fun z => by cases z; exact ne rfl)) e2 e3 (al.mono (ext_subG g1 g2 nw))
    obtain ⟨t, wb, hp, hw⟩ := hbody cdv A outer s H E G x0 XP ex hr (takes_of (E := E) rfl rfl rfl rfl)
    refine ⟨t, hp.p, hp.d _ _ G H _ { nx := wMade C Pv, rt := fun _ _ => False } (entryM (c := cqM K G H x0 E XP ex) (s0 := .me C [] []) h1 rfl ⟨_, h3⟩ h4 ⟨x0, dx, [], rfl, h3, h2, rfl, .nil⟩ rfl rfl) (hw ds Pv h5 h6) ?_ ?_ ?_ ?_⟩
    · intro σ' ρ' G' H' p S' g
      obtain ⟨C', nm, xs, e, rfl, pv⟩ := wMe_of (f := fun C' nm xs => C' = C ∧ Pv nm xs) p
      obtain ⟨v, q1, ⟨a, dx', fs, rfl, q2, q3, q4, q5⟩, _⟩ := S'.sl 0 _ e
      have ea : a = x0 := S'.mo 0 _ e rfl a q1 x0 rfl
      subst ea
      exact h7 nm xs dx' fs H' pv (fun b o eb ne => S'.eh b o eb (fun z => by cases z; exact ne rfl)) q2 q4 (q5.mono (ext_subG S'.gg S'.gh S'.nw))
    · exact fun _ _ _ _ _ _ p => p.elim
    · exact fun _ _ _ _ p => p.elim
    · exact fun _ _ _ _ p => p.elim
end
/-- a class of the module whose instances may be made -/
structure Mak (P : Program) (w : World) (K : PySem.W.Frag) (mg : Str → Option Value) (base : Heap) (k : Nat) (x : Str) (C : Addr) (n : Nat) (spec : SpcI) : Prop where
  ex : ∃ (f : Addr) (fd : FuncData) (ps : List Str), Mk K C f ∧ FnOk P w K mg base (L2.CX P w) k f fd ps (SpI K C n spec) ∧ mg x = some (.ref C) ∧ Binds K fd ps []
/-- a method, an own operator: the def at f -/
structure Mtd (P : Program) (w : World) (K : PySem.W.Frag) (mg : Str → Option Value) (base : Heap) (k : Nat) (C : Addr) (m : Str) (n : Nat) (spec : Spc) : Prop where
  ex : ∃ (f : Addr) (fd : FuncData) (ps : List Str), Meth K C m f ∧ FnOk P w K mg base (L2.CX P w) k f fd ps (SpD K n spec) ∧ Binds K fd ps []
structure Prp (P : Program) (w : World) (K : PySem.W.Frag) (mg : Str → Option Value) (base : Heap) (k : Nat) (C : Addr) (m : Str) (spec : Spc) : Prop where
  ex : ∃ (p f : Addr) (fd : FuncData) (ps : List Str), PropOf K C m p f ∧ FnOk P w K mg base (L2.CX P w) k f fd ps (SpD K 1 spec) ∧ Binds K fd ps []
section
variable {c : Cq} {X : Cx} {a b e : Expr} {es : List Expr} {ta tb te : TE} {ts : TA} {wa wb we : WE} {ws : WA} {w2 : W2} {p pos apos : Pos} {x y m : Str} {k j n : Nat} {spec : Spc} {spi : SpcI} {C : Addr}
@[simp] def wMake (C : Addr) (n : Nat) (spec : SpcI) (XP : XPr) (ws : WA) : WE := fun ρ P => ws ρ fun ds ρ1 => ds.length = n ∧ spec ds (fun nm xs => P (.ins C nm xs) ρ1) XP
theorem de_make (h : DA c ts ws) : DE c (tMake C (SpI c.K C n spi) [] c.E ts) (wMake C n spi c.XP ws) := fun σ ρ G H Q P S hw kk =>
  h σ ρ G H _ _ S hw fun vs ds ρ1 G1 H1 p1 S1 g1 i1 => by
    intro x0 dx hx hdx hne
    rw [List.append_nil]
    have hc : ∀ a u, H1 a = some u → (upd (upd H1 dx (.own x0)) x0 (.ins C dx [])) a = some u := fun a u e => by
      rw [upd_ne (ne_of_none e hx), upd_ne (ne_of_none e hdx)]
      exact e
    have hn2 : ∀ a, (upd (upd H1 dx (.own x0)) x0 (.ins C dx [])) a = none → H1 a = none := fun a e => by
      cases h1 : H1 a with
      | none => rfl
      | some u => rw [hc a u h1] at e; cases e
    have gG : ∀ H', Same (extG G1 (upd (upd H1 dx (.own x0)) x0 (.ins C dx [])) H') (extG G1 H1 H') := fun H' a u e => by
      cases ha : (upd (upd H1 dx (.own x0)) x0 (.ins C dx [])) a with
      | none =>
        rw [ext_new ha] at e
        rw [ext_new (hn2 a ha)]
        exact e
      | some o =>
        rw [ext_old ha] at e
        rw [ext_old (S1.gh a u e)]
        exact e
    have hh : ∀ H', (∀ a u, (upd (upd H1 dx (.own x0)) x0 (.ins C dx [])) a = some u → a ≠ x0 → H' a = some u) → Same H1 H' := fun H' q a u e => q a u (hc a u e) (ne_of_none e hx)
    refine ⟨G1, x0, dx, ds, vs, _, c.XP, rfl, S1.gh.trans fun a u e => hc a u e, S1.free hx, upd_same, i1, p1.1, p1.2, fun nm xs dx' fs H' pv q1 q2 q3 q4 => ⟨rfl, ?_⟩, fun C' nm xs dd us H' xp q1 q2 q3 q4 => ?_⟩
    · have h1 := hh H' q1
      refine kk _ _ ρ1 _ H' pv (S1.ext h1) (g1.trans (.ext S1.gh h1)) (.ins (dx := dx') ?_ q3 ?_ ?_)
      · rw [ext_new hx]; exact q2
      · have := q4.1; rw [List.length_map] at this; exact this
      · intro i d q e1 e2
        exact (q4.2 i d q.2 e1 (by rw [List.getElem?_map, e2]; rfl)).mono (gG H')
    · have h1 := hh H' q1
      exact c.ex C' nm xs dd us _ H' xp (S1.gg.trans (ext_same S1.gh)) (ext_sub S1.gh fun a u e _ => h1 a u e) (fun a o e m => h1 a o (S1.eh a o e m)) (S1.ext h1).nw (S1.efree (hn2 dd q2)) q3 (q4.mono (gG H'))
theorem pd_make (M : Mak X.prog X.w X.K X.mg X.base k x C n spi) (hr : Room j X.A) (hk : k + 1 ≤ j) (tk : Takes X (fun cls d _ H => c.E cls d H)) (h : PDA X c (e :: es) ts ws) (hg : Gl X x := by rfl) (hK : X.K = c.K := by rfl)
    (hdb : (x == ("__debug__" : Str)) = false := by decide) (he : starEach (e :: es) X.env = (false, eval e X.env) :: starEach es X.env := by rfl) (hpl : (backTo pos (starEach es X.env)).any (·.1) = false := by rfl) : PDE X c (.Call (.Name x p) (e :: es) [] pos) (tMake C (SpI c.K C n spi) [] c.E ts) (wMake C n spi c.XP ws) := by
  rw [← hK]
  obtain ⟨f, fd, ps, M, F, hm, hb⟩ := M.ex
  exact ⟨pe_make M F (hr.mono hk) hg hm hb .nil (passes_call tk fun _ _ _ _ z => z) h.p hdb he hpl, by rw [hK]; exact de_make h.d⟩
/-! ### methods, properties -/
theorem no_lookup : ∀ {fs : List (Str × V)}, m ∉ fs.map (·.1) → fs.lookup m = none := by
  intro fs
  induction fs with
  | nil => intro _; rfl
  | cons g fs ih =>
    intro h
    rw [List.map_cons, List.mem_cons, not_or] at h
    rw [List.lookup_cons, show (m == g.1) = false from by
      cases q : (m == g.1) with
      | false => rfl
      | true => exact absurd (eq_of_beq q) h.1]
    exact ih h.2
@[simp] def wMeth (C : Addr) (nm : List Str) (n : Nat) (spec : Spc) (XP : XPr) (w : WE) (ws : WA) : WE := fun ρ P => w ρ fun d ρ1 => match d with
  | .ins C' nm' xs => C' = C ∧ nm' = nm ∧ ws ρ1 fun ds ρ2 => ds.length + 1 = n ∧ spec (.ins C nm xs :: ds) (fun d => P d ρ2) XP
  | _ => False
theorem de_meth {nm : List Str} (hm : m ∉ nm) (h : DE c te we) (hs : DA c ts ws) : DE c (tMeth C m (SpD c.K n spec) [] c.E te ts) (wMeth C nm n spec c.XP we ws) := fun σ ρ G H Q P S hw kk =>
  h σ ρ G H _ _ S hw fun v d ρ1 G1 H1 p1 S1 g1 i1 => by
    cases d <;> first | exact p1.elim | skip
    rename_i C' nm' xs
    obtain ⟨rfl, rfl, p1⟩ := p1
    have i1' := i1
    cases i1 with
    | ins h1 h2 h3 h4 =>
      refine ⟨_, _, _, rfl, S1.gh _ _ h1, no_lookup (by rw [h2]; exact hm), hs σ ρ1 G1 H1 _ _ S1 p1 fun vs ds ρ2 G2 H2 p2 S2 g2 i2 => ?_⟩
      rw [List.append_nil]
      exact sp_use S2 (.cons (i1'.mono g2.g) i2) p2.1 p2.2 fun v d H' pd hh i => kk v d ρ2 _ H' pd (S2.ext hh) ((g1.trans g2).trans (.ext S2.gh hh)) i
theorem pd_meth {nm : List Str} {pl : Sem Bool} (M : Mtd X.prog X.w X.K X.mg X.base k C m n spec) (hC : Cls X.K C) (hm : m ∉ nm) (hr : Room j X.A) (hk : k ≤ j) (tk : Takes X (fun cls d _ H => c.E cls d H)) (ho : PDE X c a ta wa) (h : PDA X c (e :: es) ts ws) (hK : X.K = c.K := by rfl)
    (hst : starEach (e :: es) X.env = (false, eval e X.env) :: starEach es X.env := by rfl) (hpl : (backTo pos (starEach es X.env)).any (·.1) = false := by rfl)
    (ht : eval (.Call (.Attribute a m apos) (e :: es) [] pos) X.env = (do
      let ov ← eval a X.env
      standAt apos.atName
      let (f, first) ← holding [ov] (getMethod ov m pl)
      callWith pos f first (backTo pos (starEach (e :: es) X.env)) (backToKw pos (keywordEach [] X.env))) := by rfl) : PDE X c (.Call (.Attribute a m apos) (e :: es) [] pos) (tMeth C m (SpD c.K n spec) [] c.E ta ts) (wMeth C nm n spec c.XP wa ws) := by
  rw [← hK]
  obtain ⟨f, fd, ps, M, F, hb⟩ := M.ex
  exact ⟨pe_meth ho.p hC M F (hr.mono hk) hb .nil (passes_call tk fun _ _ _ _ z => z) h.p hst hpl ht, by rw [hK]; exact de_meth hm ho.d h.d⟩
theorem pd_meth0 {nm : List Str} {pl : Sem Bool} (M : Mtd X.prog X.w X.K X.mg X.base k C m n spec) (hC : Cls X.K C) (hm : m ∉ nm) (hr : Room j X.A) (hk : k ≤ j) (tk : Takes X (fun cls d _ H => c.E cls d H)) (ho : PDE X c a ta wa) (hK : X.K = c.K := by rfl)
    (ht : eval (.Call (.Attribute a m apos) [] [] pos) X.env = (do
      let ov ← eval a X.env
      standAt apos.atName
      let (f, first) ← holding [ov] (getMethod ov m pl)
      callWith pos f first (backTo pos (starEach [] X.env)) (backToKw pos (keywordEach [] X.env))) := by rfl) : PDE X c (.Call (.Attribute a m apos) [] [] pos) (tMeth C m (SpD c.K n spec) [] c.E ta tNil) (wMeth C nm n spec c.XP wa waNil) := by
  rw [← hK]
  obtain ⟨f, fd, ps, M, F, hb⟩ := M.ex
  exact ⟨pe_meth0 ho.p hC M F (hr.mono hk) hb .nil (passes_call tk fun _ _ _ _ z => z) ht, by rw [hK]; exact de_meth hm ho.d (pda_nil (X := X)).d⟩
@[simp] def wProp (C : Addr) (nm : List Str) (spec : Spc) (XP : XPr) (w : WE) : WE := fun ρ P => w ρ fun d ρ1 => match d with
  | .ins C' nm' xs => C' = C ∧ nm' = nm ∧ spec [.ins C nm xs] (fun d => P d ρ1) XP
  | _ => False
theorem pd_prop {nm : List Str} (M : Prp X.prog X.w X.K X.mg X.base k C m spec) (hC : Cls X.K C) (hr : Room j X.A) (hk : k + 1 ≤ j) (hE : ∀ cls d H, ¬ c.E cls d H) (ho : PDE X c a ta wa) (hK : X.K = c.K := by rfl) (hab : attributeBase a m X.env (eval a X.env) = eval a X.env := by rfl) : PDE X c (.Attribute a m pos) (tProp C (SpD c.K 1 spec) [] c.E ta) (wProp C nm spec c.XP wa) := by
  rw [← hK]
  obtain ⟨q, f, fd, ps, M, F, hb⟩ := M.ex
  refine ⟨pe_prop ho.p hC M F (hr.mono hk) hb .nil (fun pins σ H s e s' I x => ?_) hab, ?_⟩
  · obtain ⟨a', B, H', cls, d, _, _, _, _, _, _, _, h⟩ := x
    exact hE _ _ _ h
  · rw [hK]
    intro σ ρ G H Q P S hw kk
    refine ho.d σ ρ G H _ _ S hw fun v d ρ1 G1 H1 p1 S1 g1 i1 => ?_
    cases d <;> first | exact p1.elim | skip
    rename_i C' nm' xs
    obtain ⟨rfl, rfl, p1⟩ := p1
    have i1' := i1
    cases i1 with
    | ins h1 h2 h3 h4 =>
      exact ⟨_, _, _, rfl, S1.gh _ _ h1, sp_use S1 (.cons i1' .nil) rfl p1 fun v d H' pd hh i => kk v d ρ1 _ H' pd (S1.ext hh) (g1.trans (.ext S1.gh hh)) i⟩
/-! ### own operators -/
def rOwnB (C : Addr) (sp : Sp) (E : XK) : R2 := fun x y H Q => ∃ a b dx dy fs gs, x = .ref a ∧ y = .ref b ∧ H a = some (.ins C dx fs) ∧ H b = some (.ins C dy gs) ∧ sp [.ref a, .ref b] H Q E
theorem cmpBack {pins : List (Addr × Obj)} {σ : L2.St} {Q : VK} {u : Value} {s' : Shared} (h : EP X pins σ Q u s') : PySem.W.CmpBack (EP X pins σ Q) u s' := by
  have h' := h
  obtain ⟨v, H', I, r, q⟩ := h
  cases v with
  | non => cases r; exact h'
  | bl b => cases r; exact h'
  | int i => obtain ⟨t, rfl⟩ := r; exact h'
  | str i => obtain ⟨t, rfl⟩ := r; exact h'
  | byt i => obtain ⟨t, rfl⟩ := r; exact h'
  | flt i => obtain ⟨t, rfl⟩ := r; exact h'
  | ref a => cases r; exact h'
  | ty n => cases r; exact h'
theorem op_own {op : Operator} {CX : CXT} {f : Addr} {fd : FuncData} {ps : List Str} {sp : Sp} {E : XK} (F : FnOk X.prog X.w X.K X.mg X.base CX k f fd ps sp) (hr : Room k X.A) (hb : Binds X.K fd ps []) (hx : Passes CX X E) (hc : PySem.W.selfFirst X.K C = true)
    (hs : PySem.W.findIn X.K (.ref C) (PySem.dunder op.info.2) = some (some (.ref f))) (hf : PySem.W.isFn X.K (.ref f) = true) : OpR X (binaryOp op) (rOwnB C sp E) := by
  intro pins s σ H x y v u Q I rx ry h
  obtain ⟨a, b, dx, dy, fs, gs, rfl, rfl, ha, hb', hsp⟩ := h
  cases rx
  cases ry
  obtain ⟨mA, J, _⟩ := ins_get I.hok ha
  obtain ⟨mB, J', _⟩ := ins_get I.hok hb'
  obtain ⟨od, J, _⟩ := J.look
  obtain ⟨od', J', _⟩ := J'.look
  obtain ⟨m, hF⟩ := I.fr
  refine PySem.W.binop_K hF I.ok.mod.kin J J'.type hc hs hf (thn (run_fn F hr hb .nil hx I (vs := [.ref a, .ref b]) (.cons rfl (.cons rfl .nil)) (by rw [List.append_nil]; exact hsp)) fun u s' z => cmpBack z)
theorem un_own {CX : CXT} {f : Addr} {fd : FuncData} {ps : List Str} {sp : Sp} {E : XK} (F : FnOk X.prog X.w X.K X.mg X.base CX k f fd ps sp) (hr : Room k X.A) (hb : Binds X.K fd ps []) (hx : Passes CX X E)
    (hs : PySem.W.findIn X.K (.ref C) "__invert__" = some (some (.ref f))) (hf : PySem.W.isFn X.K (.ref f) = true) : UnR X (unaryOp .Invert) (fun x H Q => ∃ a dx fs, x = .ref a ∧ H a = some (.ins C dx fs) ∧ sp [.ref a] H Q E) := by
  intro pins s σ H x v Q I rx h
  obtain ⟨a, dx, fs, rfl, ha, hsp⟩ := h
  cases rx
  obtain ⟨mA, J, _⟩ := ins_get I.hok ha
  obtain ⟨od, J, _⟩ := J.look
  obtain ⟨m, hF⟩ := I.fr
  exact PySem.W.ksp_inv hF I.ok.mod.kin J hs hf (run_fn F hr hb .nil hx I (vs := [.ref a]) (.cons rfl .nil) (by rw [List.append_nil]; exact hsp))
/-- an operator of the class: the def at f -/
structure Opr (P : Program) (w : World) (K : PySem.W.Frag) (mg : Str → Option Value) (base : Heap) (k : Nat) (C : Addr) (m : Str) (n : Nat) (spec : Spc) : Prop where
  ex : ∃ (f : Addr) (fd : FuncData) (ps : List Str), PySem.W.findIn K (.ref C) m = some (some (.ref f)) ∧ PySem.W.isFn K (.ref f) = true ∧ FnOk P w K mg base (L2.CX P w) k f fd ps (SpD K n spec) ∧ Binds K fd ps []
@[simp] def wOwnB (C : Addr) (spec : Spc) (XP : XPr) (wa wb : WE) : WE := fun ρ P => wa ρ fun x ρ1 => wb ρ1 fun y ρ2 => match x, y with
  | .ins C1 n1 xs, .ins C2 n2 ys => C1 = C ∧ C2 = C ∧ spec [.ins C1 n1 xs, .ins C2 n2 ys] (fun d => P d ρ2) XP
  | _, _ => False
theorem pd_binO {op : Operator} (M : Opr X.prog X.w X.K X.mg X.base k C (PySem.dunder op.info.2) 2 spec) (hc : PySem.W.selfFirst X.K C = true) (hr : Room j X.A) (hk : k ≤ j) (tk : Takes X (fun cls d _ H => c.E cls d H)) (ha : PDE X c a ta wa) (hb : PDE X c b tb wb) (hK : X.K = c.K := by rfl) : PDE X c (.BinOp a op b pos) (tOp (rOwnB C (SpD c.K 2 spec) c.E) ta tb) (wOwnB C spec c.XP wa wb) := by
  rw [← hK]
  obtain ⟨f, fd, ps, hs, hf, F, hbi⟩ := M.ex
  refine ⟨pe_op (op_own F (hr.mono hk) hbi (passes_call tk fun _ _ _ _ z => z) hc hs hf) ha.p hb.p, ?_⟩
  rw [hK]
  intro σ ρ G H Q P S hw kk
  refine ha.d σ ρ G H _ _ S hw fun v d ρ1 G1 H1 p1 S1 g1 i1 => hb.d σ ρ1 G1 H1 _ _ S1 p1 fun v2 d2 ρ2 G2 H2 p2 S2 g2 i2 => ?_
  cases d <;> cases d2 <;> first | exact p2.elim | skip
  obtain ⟨rfl, rfl, p2⟩ := p2
  have i1' := i1.mono g2.g
  have i2' := i2
  have j1 := i1'
  cases j1 with
  | ins h1 h2 h3 h4 =>
    cases i2 with
    | ins q1 q2 q3 q4 =>
      exact ⟨_, _, _, _, _, _, rfl, rfl, S2.gh _ _ h1, S2.gh _ _ q1, sp_use S2 (.cons i1' (.cons i2' .nil)) rfl p2 fun v d H' pd hh i => kk v d ρ2 _ H' pd (S2.ext hh) ((g1.trans g2).trans (.ext S2.gh hh)) i⟩
@[simp] def wOwnU (C : Addr) (spec : Spc) (XP : XPr) (wa : WE) : WE := fun ρ P => wa ρ fun x ρ1 => match x with
  | .ins C1 n1 xs => C1 = C ∧ spec [.ins C1 n1 xs] (fun d => P d ρ1) XP
  | _ => False
theorem pd_inv (M : Opr X.prog X.w X.K X.mg X.base k C "__invert__" 1 spec) (hr : Room j X.A) (hk : k ≤ j) (tk : Takes X (fun cls d _ H => c.E cls d H)) (ha : PDE X c a ta wa) (hK : X.K = c.K := by rfl) : PDE X c (.UnaryOp .Invert a pos) (tUn (fun x H Q => ∃ a dx fs, x = .ref a ∧ H a = some (.ins C dx fs) ∧ SpD c.K 1 spec [.ref a] H Q c.E) ta) (wOwnU C spec c.XP wa) := by
  rw [← hK]
  obtain ⟨f, fd, ps, hs, hf, F, hbi⟩ := M.ex
  refine ⟨pe_un (un_own F (hr.mono hk) hbi (passes_call tk fun _ _ _ _ z => z) hs hf) ha.p, ?_⟩
  rw [hK]
  intro σ ρ G H Q P S hw kk
  refine ha.d σ ρ G H _ _ S hw fun v d ρ1 G1 H1 p1 S1 g1 i1 => ?_
  cases d <;> first | exact p1.elim | skip
  obtain ⟨rfl, p1⟩ := p1
  have i1' := i1
  cases i1 with
  | ins h1 h2 h3 h4 =>
    exact ⟨_, _, _, rfl, S1.gh _ _ h1, sp_use S1 (.cons i1' .nil) rfl p1 fun v d H' pd hh i => kk v d ρ1 _ H' pd (S1.ext hh) (g1.trans (.ext S1.gh hh)) i⟩
/-! ### == of data -/
mutual
def toPy : D → PyData
  | .non => .none
  | .bl b => .bool b
  | .int i => .int i
  | .str x => .str x
  | .ref _ => .none
  | .scr _ => .none
  | .tup xs => .tuple (toPys xs)
  | .lst xs => .list (toPys xs)
  | .ins _ _ _ => .none
def toPys : List D → List PyData
  | [] => []
  | x :: r => toPy x :: toPys r
end
mutual
/-- data of at most n lists within each other -/
@[simp] def plainD : Nat → D → Bool
  | _, .non => true
  | _, .bl _ => true
  | _, .int _ => true
  | _, .str x => PyData.strOk x
  | n + 1, .tup xs => plainDs n xs
  | n + 1, .lst xs => plainDs n xs
  | _, _ => false
@[simp] def plainDs : Nat → List D → Bool
  | _, [] => true
  | n, x :: r => plainD n x && plainDs n r
end
def deq (x y : D) : Bool := PyData.eqv (toPy x) (toPy y)
end
section
theorem All.cases {K : PySem.W.Frag} {H : Hp} {xs : List D} {vs : List V} (h : All K H xs vs) : (xs = [] ∧ vs = []) ∨ ∃ x r v us, xs = x :: r ∧ vs = v :: us ∧ Is K H x v ∧ All K H r us := by
  cases xs with
  | nil => exact .inl ⟨rfl, h.unnil⟩
  | cons x r => obtain ⟨v, us, rfl, h1, h2⟩ := h.uncons; exact .inr ⟨x, r, v, us, rfl, rfl, h1, h2⟩
mutual
theorem dp_of {K : PySem.W.Frag} {H : Hp} : ∀ (d : D) (n : Nat) (v : V), plainD n d = true → Is K H d v → Dp K H v (toPy d)
  | .non, n, v, _, h => by cases h; exact .non
  | .bl b, n, v, _, h => by cases h; exact .bl b
  | .int i, n, v, _, h => by cases h; exact .int i
  | .str x, n, v, _, h => by cases h; exact .str x
  | .ref a, n, v, p, _ => by cases n <;> simp [plainD] at p
  | .scr a, n, v, p, _ => by cases n <;> simp [plainD] at p
  | .ins C nm xs, n, v, p, _ => by cases n <;> simp [plainD] at p
  | .tup xs, n, v, p, h => by
    cases n with
    | zero => simp [plainD] at p
    | succ n =>
      simp only [plainD] at p
      cases h with
      | tup h1 h2 h3 => exact .tup h1 (dp_all xs n _ p ⟨h2, h3⟩)
  | .lst xs, n, v, p, h => by
    cases n with
    | zero => simp [plainD] at p
    | succ n =>
      simp only [plainD] at p
      cases h with
      | lst h1 h2 h3 => exact .lst (.of h1) (dp_all xs n _ p ⟨h2, h3⟩)
theorem dp_all {K : PySem.W.Frag} {H : Hp} : ∀ (xs : List D) (n : Nat) (vs : List V), plainDs n xs = true → All K H xs vs → DpAll K H vs (toPys xs)
  | [], n, vs, _, h => by rw [h.unnil]; exact .nil
  | x :: r, n, vs, p, h => by
    simp only [plainDs, Bool.and_eq_true] at p
    obtain ⟨v, us, rfl, h1, h2⟩ := h.uncons
    exact .cons (dp_of x n v p.1 h1) (dp_all r n us p.2 h2)
end
mutual
theorem shaped_of : ∀ (d : D) (n : Nat), plainD n d = true → (toPy d).canLay0 = true ∧ (toPy d).depth ≤ n
  | .non, n, _ => ⟨rfl, Nat.zero_le _⟩
  | .bl b, n, _ => ⟨rfl, Nat.zero_le _⟩
  | .int i, n, _ => ⟨rfl, Nat.zero_le _⟩
  | .str x, n, p => by
    have p : PyData.strOk x = true := by cases n <;> simpa [plainD] using p
    exact ⟨by simpa [toPy, PyData.canLay0] using p, Nat.zero_le _⟩
  | .ref a, n, p => by cases n <;> simp [plainD] at p
  | .scr a, n, p => by cases n <;> simp [plainD] at p
  | .ins C nm xs, n, p => by cases n <;> simp [plainD] at p
  | .tup xs, n, p => by
    cases n with
    | zero => simp [plainD] at p
    | succ n =>
      simp only [plainD] at p
      obtain ⟨h1, h2⟩ := shaped_all xs n p
      exact ⟨by simpa [toPy, PyData.canLay0] using h1, by simp only [toPy, PyData.depth]; omega⟩
  | .lst xs, n, p => by
    cases n with
    | zero => simp [plainD] at p
    | succ n =>
      simp only [plainD] at p
      obtain ⟨h1, h2⟩ := shaped_all xs n p
      exact ⟨by simpa [toPy, PyData.canLay0] using h1, by simp only [toPy, PyData.depth]; omega⟩
theorem shaped_all : ∀ (xs : List D) (n : Nat), plainDs n xs = true → PyData.canLayAll0 (toPys xs) = true ∧ PyData.depthAll (toPys xs) ≤ n
  | [], n, _ => ⟨rfl, Nat.zero_le _⟩
  | x :: r, n, p => by
    simp only [plainDs, Bool.and_eq_true] at p
    obtain ⟨h1, h2⟩ := shaped_of x n p.1
    obtain ⟨h3, h4⟩ := shaped_all r n p.2
    refine ⟨by simp [toPys, PyData.canLayAll0, h1, h3], ?_⟩
    simp only [toPys, PyData.depthAll]
    omega
end
theorem shaped_D {d : D} {n : Nat} (h : plainD n d = true) (hn : n ≤ 64) : SeqAt.shaped (toPy d) = true := by
  obtain ⟨h1, h2⟩ := shaped_of d n h
  unfold SeqAt.shaped
  rw [h1, decide_eq_true (Nat.le_trans h2 hn)]
  rfl
/-- two texts, ints, lists ..: equal by their data -/
def kEq (n : Nat) : D → D → (D → Prop) → Prop := fun x y P => plainD n x = true ∧ plainD n y = true ∧ P (.bl (deq x y))
def kNe (n : Nat) : D → D → (D → Prop) → Prop := fun x y P => plainD n x = true ∧ plainD n y = true ∧ P (.bl (!deq x y))
variable {c : Cq} {X : Cx} {a b e : Expr} {ta tb te : TE} {w2 : W2} {pos : Pos}
theorem dp_rv {K : PySem.W.Frag} {G H : Hp} {d : D} {n : Nat} {v : V} (g : Same G H) (h : Rv K G H d v) (p : plainD n d = true) : Dp K H v (toPy d) := by
  cases h with
  | is h => exact dp_of d n v p (h.mono g)
  | @ow l vs xs h al =>
    cases n with
    | zero => simp [plainD] at p
    | succ n =>
      simp only [plainD] at p
      exact .lst (.of h) (dp_all xs n vs p (al.mono g))
theorem opd_eqD {n : Nat} (hn : n ≤ 64) : OpD c (rEqD c.K) (kEq n) := fun G H Q P x y dx dy g hx hy h q _ =>
  ⟨_, _, dp_rv g hx h.1, dp_rv g hy h.2.1, shaped_D h.1 hn, shaped_D h.2.1 hn, q _ _ h.2.2 (.bl _)⟩
theorem opd_neD {n : Nat} (hn : n ≤ 64) : OpD c (rNeD c.K) (kNe n) := fun G H Q P x y dx dy g hx hy h q _ =>
  ⟨_, _, dp_rv g hx h.1, dp_rv g hy h.2.1, shaped_D h.1 hn, shaped_D h.2.1 hn, q _ _ h.2.2 (.bl _)⟩
theorem hu64 {A : Around} {k : Nat} (hr : Room k A) : A.units + 64 < cLine := hr.units
theorem pd_eq {k : Nat} (hr : Room k X.A) (h : PD2 X c a b ta tb w2) (hK : X.K = c.K := by rfl) : PDE X c (.Compare a [.Eq] [b] pos) (tOp (rEqD c.K) ta tb) (wOp w2 (kEq 8)) := by
 rw [← hK]
 exact pd_cmp (op_eqD (hu64 hr)) (by rw [hK]; exact opd_eqD (by decide)) h (nomark _)
theorem pd_ne {k : Nat} (hr : Room k X.A) (h : PD2 X c a b ta tb w2) (hK : X.K = c.K := by rfl) : PDE X c (.Compare a [.NotEq] [b] pos) (tOp (rNeD c.K) ta tb) (wOp w2 (kNe 8)) := by
 rw [← hK]
 exact pd_cmp (op_neD (hu64 hr)) (by rw [hK]; exact opd_neD (by decide)) h (nomark _)
theorem pdt_eq {k : Nat} (hr : Room k X.A) (h : PD2 X c a b ta tb w2) (hK : X.K = c.K := by rfl) : PDT X c (.Compare a [.Eq] [b] pos) (tTest (tOp (rEqD c.K) ta tb)) (wTst (wOp w2 (kEq 8))) := by
 rw [← hK]
 exact pdt_cmp (op_eqD (hu64 hr)) (by rw [hK]; exact opd_eqD (by decide)) h (nomark _)
theorem pdt_ne {k : Nat} (hr : Room k X.A) (h : PD2 X c a b ta tb w2) (hK : X.K = c.K := by rfl) : PDT X c (.Compare a [.NotEq] [b] pos) (tTest (tOp (rNeD c.K) ta tb)) (wTst (wOp w2 (kNe 8))) := by
 rw [← hK]
 exact pdt_cmp (op_neD (hu64 hr)) (by rw [hK]; exact opd_neD (by decide)) h (nomark _)
end
end DL
end

section
set_option maxRecDepth 100000
set_option maxHeartbeats 1000000
namespace DL
open PySem PySem.Spec PyProof.Rows L2
section
variable {c : Cq} {X : Cx} {a b e : Expr} {es : List Expr} {ta tb te : TE} {ts : TA} {wa wb we : WE} {ws : WA} {w2 : W2} {wx : WX} {p pos : Pos} {x : Str}
/-! ### an own list is an own list no more -/
theorem StOk.forget {σ : L2.St} {ρ : Rho} {G H : Hp} (S : StOk c σ ρ G H) (i : Nat) : StOk c σ (ρ.set i none) G H := by
  have back : ∀ (j : Nat) (s : Sl), (ρ.set i none)[j]? = some (some s) → ρ[j]? = some (some s) := fun j s e => by
    rw [List.getElem?_set] at e
    by_cases h : i = j
    · rw [if_pos h] at e; split at e <;> cases e
    · rw [if_neg h] at e; exact e
  exact ⟨S.gg, S.gh, S.eh, S.mh, S.nw, by simp [S.len], fun j s e => S.sl j s (back j s e), fun j s e => S.mo j s (back j s e), fun j k s s' hjk e1 e2 => S.dj j k s s' hjk (back j s e1) (back k s' e2)⟩
theorem set_same {α : Type} : ∀ {l : List α} {i : Nat} {x : α}, l[i]? = some x → l.set i x = l
  | [], i, x, h => by simp at h
  | a :: l, 0, x, h => by simp at h; subst h; rfl
  | a :: l, i + 1, x, h => by
    simp only [List.getElem?_cons_succ] at h
    rw [List.set_cons_succ, set_same h]
theorem StOk.frz {σ : L2.St} {ρ : Rho} {G H : Hp} {i : Nat} {xs : List D} {l : Addr} {vs : List V} (S : StOk c σ ρ G H) (e : ρ[i]? = some (some (.ow xs))) (h1 : σ[i]? = some (some (.ref l))) (h2 : H l = some (.lst vs)) (h3 : G l = none) (h4 : All c.K G xs vs) (hE : c.E0 l = none) :
    StOk c σ (ρ.set i (some (.sh (.lst xs)))) (upd G l (.lst vs)) H := by
  have S1 := (S.forget i).know h2 h3 hE fun j s ej o hj => by
    rw [List.getElem?_set] at ej
    by_cases h : i = j
    · rw [if_pos h] at ej; split at ej <;> cases ej
    · rw [if_neg h] at ej
      exact S.dj i j _ s h e ej rfl o l h1 hj
  have S2 := S1.set (H0 := H) i (s := .sh (.lst xs)) (v := .ref l) (.sh (.lst upd_same h4.1 (h4.mono (same_new h3)).2))
  rw [set_same h1, List.set_set] at S2
  exact S2
@[simp] def wFrz (i : Nat) : WE := fun ρ P => wOwn i ρ fun d _ => P d (Rho.s ρ i (some (.sh d)))
theorem de_frz {i : Nat} : DE c (tVar i) (wFrz i) := fun σ ρ G H Q P S hw k => by
  obtain ⟨xs, e, p⟩ := wOwn_of hw
  obtain ⟨l, vs, h1, h2, h3, h4, h5⟩ := own_at S e
  refine ⟨_, h1, k _ _ (Rho.s ρ i (some (.sh (.lst xs)))) (upd G l (.lst vs)) H p (by rw [Rho.s_eq]; exact S.frz e h1 h2 h3 h4 h5) ?_ (.lst upd_same h4.1 (h4.mono (same_new h3)).2)⟩
  refine ⟨same_new h3, fun _ _ e _ => e, fun l' u e' n => ?_, fun _ e => e, fun l' n j s ej o => ?_⟩
  · by_cases hl : l' = l
    · subst hl
      exact absurd h1 (n i _ e rfl)
    · rw [upd_ne hl] at e'
      exact .inl e'
  · rw [Rho.s_eq, List.getElem?_set] at ej
    by_cases h : i = j
    · rw [if_pos h] at ej
      split at ej
      · cases ej; cases o
      · cases ej
    · rw [if_neg h] at ej
      exact n j s ej o
theorem pd_frz (i : Nat) (hN : X.N[i]? = some x := by rfl) (hv : Vis X.env.scope x := by first | exact Or.inl rfl | exact Or.inr (Or.inl rfl) | exact Or.inr (Or.inr rfl)) (hd : (x == ("__debug__" : Str)) = false := by decide)
    (hcd : (x == ("__classdict__" : Str)) = false := by decide) : PDE X c (.Name x pos) (tVar i) (wFrz i) := ⟨pv i hN hv hd hcd, de_frz⟩
/-! ### list(range(..)), [x] * n -/
def rgD (a b : Int) : List D := (List.range (b - a).toNat).map fun i => D.int (a + (i : Nat))
theorem all_rg {K : PySem.W.Frag} {G : Hp} (a b : Int) : All K G (rgD a b) (rgV a b) := by
  unfold rgD rgV
  have : ∀ l : List Nat, All K G (l.map fun i => D.int (a + (i : Nat))) (l.map fun i => V.int (a + (i : Nat))) := fun l => by
    induction l with
    | nil => exact .nil
    | cons x r ih => exact .cons (.int _) ih
  exact this _
def kRg (a b : Int) (P : List D → Prop) : Prop := -1000000 ≤ a ∧ a ≤ 1000000 ∧ -1000000 ≤ b ∧ b ≤ 1000000 ∧ P (rgD a b)
theorem rgOk_of {a b : Int} (h1 : -1000000 ≤ a) (h2 : a ≤ 1000000) (h3 : -1000000 ≤ b) (h4 : b ≤ 1000000) : RgOk a b := by
  refine ⟨by omega, by omega, by omega, by omega, ?_⟩
  have : (b - a).toNat ≤ 2000000 := by omega
  exact Nat.le_trans this (by decide)
@[simp] def wLstRg1 (w : WE) : WX := fun ρ P => w ρ fun x ρ1 => match x with
  | .int n => kRg 0 n fun xs => P (.ow xs) ρ1
  | _ => False
@[simp] def wLstRg2 (wa wb : WE) : WX := fun ρ P => wa ρ fun x ρ1 => wb ρ1 fun y ρ2 => match x, y with
  | .int m, .int n => kRg m n fun xs => P (.ow xs) ρ2
  | _, _ => False
theorem pd_lstRg1 {p2 p3 : Pos} (hl : X.mg "list" = none) (hr : X.mg "range" = none) (h : PDE X c a ta wa) (hc : X.calm = true := by rfl) (hg : Gl X "list" := by rfl) (hg2 : Gl X "range" := by rfl) (na : starEach [a] X.env = (false, eval a X.env) :: starEach [] X.env := by rfl)
    (ne : starEach [.Call (.Name "range" p2) [a] [] p3] X.env = (false, eval (.Call (.Name "range" p2) [a] [] p3) X.env) :: starEach [] X.env := by rfl) :
    PDX X c (.Call (.Name "list" p) [.Call (.Name "range" p2) [a] [] p3] [] pos) (tLstRg (tRg1 ta)) (wLstRg1 wa) := ⟨pe_listRg hc hg hl (prg_1 hg2 hr h.p na) ne, fun σ ρ G H Q P S hw k => h.d σ ρ G H _ _ S hw fun v d ρ1 G1 H1 p1 S1 g1 i1 => by
  cases d <;> first | exact p1.elim | skip
  cases i1
  exact ⟨_, rfl, rgOk_of p1.1 p1.2.1 p1.2.2.1 p1.2.2.2.1, fun m hm => k _ _ ρ1 _ _ p1.2.2.2.2 (S1.newH hm) (g1.trans (.newH hm)) (ct_new S1 hm (g1.d m hm) (all_rg _ _))⟩⟩
theorem pd_lstRg2 {p2 p3 : Pos} (hl : X.mg "list" = none) (hr : X.mg "range" = none) (h : PDE X c a ta wa) (h' : PDE X c b tb wb) (hc : X.calm = true := by rfl) (hg : Gl X "list" := by rfl) (hg2 : Gl X "range" := by rfl)
    (na : starEach [a, b] X.env = (false, eval a X.env) :: starEach [b] X.env := by rfl) (nb : starEach [b] X.env = (false, eval b X.env) :: starEach [] X.env := by rfl) (hp : (backTo p3 (starEach [b] X.env)).any (·.1) = false := by rfl)
    (ne : starEach [.Call (.Name "range" p2) [a, b] [] p3] X.env = (false, eval (.Call (.Name "range" p2) [a, b] [] p3) X.env) :: starEach [] X.env := by rfl) :
    PDX X c (.Call (.Name "list" p) [.Call (.Name "range" p2) [a, b] [] p3] [] pos) (tLstRg (tRg2 ta tb)) (wLstRg2 wa wb) := ⟨pe_listRg hc hg hl (prg_2 hg2 hr h.p h'.p na nb hp) ne, fun σ ρ G H Q P S hw k => h.d σ ρ G H _ _ S hw fun v d ρ1 G1 H1 p1 S1 g1 i1 =>
  h'.d σ ρ1 G1 H1 _ _ S1 p1 fun v2 d2 ρ2 G2 H2 p2 S2 g2 i2 => by
    cases d <;> cases d2 <;> first | exact p2.elim | skip
    cases i1
    cases i2
    exact ⟨_, _, rfl, rfl, rgOk_of p2.1 p2.2.1 p2.2.2.1 p2.2.2.2.1, fun m hm => k _ _ ρ2 _ _ p2.2.2.2.2 (S2.newH hm) ((g1.trans g2).trans (.newH hm)) (ct_new S2 hm ((g1.trans g2).d m hm) (all_rg _ _))⟩⟩
theorem All.rep {K : PySem.W.Frag} {G : Hp} {xs : List D} {vs : List V} (h : All K G xs vs) : ∀ n, All K G (List.replicate n xs).flatten (List.replicate n vs).flatten
  | 0 => .nil
  | n + 1 => by
    rw [List.replicate_succ, List.replicate_succ, List.flatten_cons, List.flatten_cons]
    exact h.append (All.rep h n)
/-- [x, ..] * n, a list of one's own -/
@[simp] def wRepO (w : WX) (wn : WE) : WX := fun ρ P => w ρ fun s ρ1 => wn ρ1 fun n ρ2 => match s, n with
  | .ow xs, .int n => n ≤ 1000000 ∧ -1000000 ≤ n ∧ xs.length ≤ 2 ∧ P (.ow (List.replicate n.toNat xs).flatten) ρ2
  | _, _ => False
theorem pd_repO {p2 : Pos} (h : PDX X c (.List es p2) ta wx) (h' : PDE X c b tb wb) : PDX X c (.BinOp (.List es p2) .Mult b pos) (tOp rRep ta tb) (wRepO wx wb) := ⟨pe_op op_rep h.p h'.p, fun σ ρ G H Q P S hw k => h.d σ ρ G H _ _ S hw fun v s ρ1 G1 H1 p1 S1 g1 i1 =>
  h'.d σ ρ1 G1 H1 _ _ S1 p1 fun v2 d2 ρ2 G2 H2 p2 S2 g2 i2 => by
    cases s <;> cases d2 <;> first | exact p2.elim | skip
    rename_i xs n
    cases i2
    have j := i1.step g2
    cases i1 with
    | ow =>
      cases j with
      | ow h1 h2 h3 h4 h5 h6 =>
        rename_i l0 _ _ _ _ _ _ _ us
        have hl : us.length = xs.length := h6.1
        refine ⟨l0, n, us, rfl, rfl, h1, by omega, by omega, ?_, fun m hm => k _ _ ρ2 _ _ p2.2.2.2 (S2.newH hm) ((g1.trans g2).trans (.newH hm)) (ct_new S2 hm ((g1.trans g2).d m hm) (h6.rep _))⟩
        rw [hl]
        have : xs.length * n.toNat ≤ 2 * 1000000 := Nat.mul_le_mul p2.2.2.1 (by omega)
        exact Nat.le_trans this (by decide)⟩
/-! ### min, max, ** -/
@[simp] def kMin2 : D → D → (D → Prop) → Prop
  | .int i, .int j, P => P (.int (if j < i then j else i))
  | _, _, _ => False
@[simp] def kMax2 : D → D → (D → Prop) → Prop
  | .int i, .int j, P => P (.int (if j > i then j else i))
  | _, _, _ => False
theorem boot_min : bootBuiltins "min" = some (.builtin "min") := by decide +kernel
theorem boot_max : bootBuiltins "max" = some (.builtin "max") := by decide +kernel
@[simp] def w22 (wa wb : WE) (k : D → D → (D → Prop) → Prop) : WE := fun ρ P => wa ρ fun x ρ1 => wb ρ1 fun y ρ2 => k x y fun z => P z ρ2
theorem pd_min2 (hm : X.mg "min" = none) (h : PDE X c a ta wa) (h' : PDE X c b tb wb) (hc : X.calm = true := by rfl) (hg : Gl X "min" := by rfl) (na : starEach [a, b] X.env = (false, eval a X.env) :: starEach [b] X.env := by rfl) (nb : starEach [b] X.env = (false, eval b X.env) :: starEach [] X.env := by rfl)
    (hp : (backTo pos (starEach [b] X.env)).any (·.1) = false := by rfl) : PDE X c (.Call (.Name "min" p) [a, b] [] pos) (tCB (fun xs H Q => ∃ i j, xs = [.int i, .int j] ∧ Q (.int (if j < i then j else i)) H) (tCons ta (tCons tb tNil))) (w22 wa wb kMin2) :=
  ⟨pe_callB (call_min2 hc) hg hm boot_min (pa_cons h.p (pa_cons h'.p pa_nil nb) na) (by decide) (by decide) na hp, fun σ ρ G H Q P S hw k => h.d σ ρ G H _ _ S hw fun v d ρ1 G1 H1 p1 S1 g1 i1 => h'.d σ ρ1 G1 H1 _ _ S1 p1 fun v2 d2 ρ2 G2 H2 p2 S2 g2 i2 => by
    cases d <;> cases d2 <;> first | exact p2.elim | skip
    cases i1
    cases i2
    exact ⟨_, _, rfl, k _ _ ρ2 G2 H2 p2 S2 (g1.trans g2) (.int _)⟩⟩
theorem pd_max2 (hm : X.mg "max" = none) (h : PDE X c a ta wa) (h' : PDE X c b tb wb) (hc : X.calm = true := by rfl) (hg : Gl X "max" := by rfl) (na : starEach [a, b] X.env = (false, eval a X.env) :: starEach [b] X.env := by rfl) (nb : starEach [b] X.env = (false, eval b X.env) :: starEach [] X.env := by rfl)
    (hp : (backTo pos (starEach [b] X.env)).any (·.1) = false := by rfl) : PDE X c (.Call (.Name "max" p) [a, b] [] pos) (tCB (fun xs H Q => ∃ i j, xs = [.int i, .int j] ∧ Q (.int (if j > i then j else i)) H) (tCons ta (tCons tb tNil))) (w22 wa wb kMax2) :=
  ⟨pe_callB (call_max2 hc) hg hm boot_max (pa_cons h.p (pa_cons h'.p pa_nil nb) na) (by decide) (by decide) na hp, fun σ ρ G H Q P S hw k => h.d σ ρ G H _ _ S hw fun v d ρ1 G1 H1 p1 S1 g1 i1 => h'.d σ ρ1 G1 H1 _ _ S1 p1 fun v2 d2 ρ2 G2 H2 p2 S2 g2 i2 => by
    cases d <;> cases d2 <;> first | exact p2.elim | skip
    cases i1
    cases i2
    exact ⟨_, _, rfl, k _ _ ρ2 G2 H2 p2 S2 (g1.trans g2) (.int _)⟩⟩
abbrev kPow := kI CPow fun i j => i ^ j.toNat
theorem pd_pow (h : PD2 X c a b ta tb w2) : PDE X c (.BinOp a .Pow b pos) (tOp (rI CPow fun i j => .int (i ^ j.toNat)) ta tb) (wOp w2 kPow) := pd_op op_pow opd_I h
end
/-! ### dicts of one's own -/
section
variable {c : Cq} {X : Cx} {a b e : Expr} {es : List Expr} {ta tb te : TE} {wa wb we : WE} {p pos : Pos} {x : Str}
@[simp] def wDictO : WX := fun ρ P => P (.dk []) ρ
theorem pd_dictO (hmu : c.mu = none := by rfl) : PDX X c (.Dict [] [] pos) tDNewK wDictO := ⟨pe_dnewK, fun σ ρ G H Q P S hw k => fun m hm =>
  k _ _ ρ _ _ hw (S.newH hm) (.newH hm) (.dk (vs := []) upd_same (S.free hm) (S.efree hm) (fresh_notOwn S hm) hm rfl .nil hmu)⟩
theorem dk_at {σ : L2.St} {ρ : Rho} {G H : Hp} {i : Nat} {kvs : List (Key × D)} (S : StOk c σ ρ G H) (e : ρ[i]? = some (some (.dk kvs))) : ∃ (l : Addr) (vs : List (Key × V)), σ[i]? = some (some (.ref l)) ∧ H l = some (.dK vs) ∧ G l = none ∧ vs.map (·.1) = kvs.map (·.1) ∧ All c.K G (kvs.map (·.2)) (vs.map (·.2)) ∧ (c.E0 l = none ∨ (Sl.isMu (.dk kvs) = true ∧ c.mu = some l)) := by
  obtain ⟨v, h1, ⟨l, vs, rfl, h2, h3, h4, h5⟩, h6⟩ := S.sl i _ e
  exact ⟨l, vs, h1, h2, h3, h4, h5, h6 l rfl rfl⟩
def hasK {α : Type} (kvs : List (Key × α)) (k : Key) : Bool := kvs.any fun q => decide (q.1 = k)
@[simp] def keyD : D → Option Key
  | .int i => some (.inl i)
  | .str x => some (.inr x)
  | _ => none
theorem keyD_is {K : PySem.W.Frag} {G : Hp} {d : D} {v : V} {k : Key} (h : Is K G d v) (e : keyD d = some k) : v = kV k := by
  cases d <;> first | (cases e; cases h; rfl) | cases e
theorem dk_g {ρ : Rho} {i : Nat} {C : List (Key × D) → Prop} (h : match Rho.g ρ i with | some (.dk xs) => C xs | _ => False) : ∃ xs, ρ[i]? = some (some (.dk xs)) ∧ C xs := by
  cases e : Rho.g ρ i with
  | none => rw [e] at h; exact h.elim
  | some s =>
    rw [e] at h
    cases s with
    | dk xs => exact ⟨xs, Rho.g_eq ρ i e, h⟩
    | sh d => exact h.elim
    | pn n => exact h.elim
    | ow kvs => exact h.elim
    | me C nm xs => exact h.elim
theorem hasK_keys {α β : Type} {k : Key} : ∀ {a : List (Key × α)} {b : List (Key × β)}, a.map (·.1) = b.map (·.1) → hasK a k = hasK b k
  | [], [], _ => rfl
  | [], q :: b, h => by cases h
  | q :: a, [], h => by cases h
  | q :: a, r :: b, h => by
    simp only [List.map_cons, List.cons.injEq] at h
    have := hasK_keys (k := k) h.2
    unfold hasK at this ⊢
    rw [List.any_cons, List.any_cons, this, h.1]
@[simp] def wDin (i : Nat) (neg : Bool) (w : WE) : WE := fun ρ P => w ρ fun d ρ1 => match Rho.g ρ1 i with
  | some (.dk kvs) => match keyD d with
    | some k => P (.bl (neg ^^ hasK kvs k)) ρ1
    | none => False
  | _ => False
theorem din_use {σ : L2.St} {ρ : Rho} {G H : Hp} {i : Nat} {neg : Bool} {we : WE} {P : D → Rho → Prop} (S : StOk c σ ρ G H) {d : D} {v : V} (iv : Is c.K G d v) (p : match Rho.g ρ i with
  | some (.dk kvs) => match keyD d with
    | some k => P (.bl (neg ^^ hasK kvs k)) ρ
    | none => False
  | _ => False) : ∃ l o, σ[i]? = some (some (.ref l)) ∧ DGet H l v o ∧ P (.bl (neg ^^ o.isSome)) ρ := by
  obtain ⟨kvs, e, p⟩ := dk_g (C := fun kvs => match keyD d with | some k => P (.bl (neg ^^ hasK kvs k)) ρ | none => False) p
  obtain ⟨l, vs, h1, h2, h3, h4, h5, h6⟩ := dk_at S e
  cases ek : keyD d with
  | none => rw [ek] at p; exact p.elim
  | some k =>
    rw [ek] at p
    refine ⟨l, valV vs k, h1, by rw [keyD_is iv ek]; exact DGet.k h2, ?_⟩
    have : (valV vs k).isSome = hasK kvs k := by
      rw [← valV_any, ← hasK_keys h4]
      rfl
    rw [this]
    exact p
theorem hu1 {A : Around} {k : Nat} (hr : Room k A) : A.units + 1 < cLine := by have := hr.units; omega
theorem de_din {i : Nat} (h : DE c ta wa) : DE c (tDIn ta (tVar i)) (wDin i false wa) := fun σ ρ G H Q P S hw k => h σ ρ G H _ _ S hw fun v d ρ1 G1 H1 p1 S1 g1 i1 => by
  obtain ⟨l, o, h1, h2, p⟩ := din_use (we := wa) S1 i1 p1
  rw [Bool.false_xor] at p
  exact ⟨_, h1, l, o, rfl, h2, k _ _ ρ1 G1 H1 p S1 g1 (.bl _)⟩
theorem de_dnotin {i : Nat} (h : DE c ta wa) : DE c (tDNotIn ta (tVar i)) (wDin i true wa) := fun σ ρ G H Q P S hw k => h σ ρ G H _ _ S hw fun v d ρ1 G1 H1 p1 S1 g1 i1 => by
  obtain ⟨l, o, h1, h2, p⟩ := din_use (we := wa) S1 i1 p1
  rw [Bool.true_xor] at p
  exact ⟨_, h1, l, o, rfl, h2, k _ _ ρ1 G1 H1 p S1 g1 (.bl _)⟩
section
variable {k : Nat} {px : Pos}
theorem pd_din (i : Nat) (hr : Room k X.A) (h : PDE X c a ta wa) (hN : X.N[i]? = some x := by rfl) (hv : Vis X.env.scope x := by first | exact Or.inl rfl | exact Or.inr (Or.inl rfl) | exact Or.inr (Or.inr rfl)) (hd : (x == ("__debug__" : Str)) = false := by decide)
    (hcd : (x == ("__classdict__" : Str)) = false := by decide) : PDE X c (.Compare a [.In] [.Name x px] pos) (tDIn ta (tVar i)) (wDin i false wa) := ⟨pe_cmp (pc_din (hu1 hr) h.p (pv i hN hv hd hcd)), de_din h.d⟩
theorem pdt_din (i : Nat) (hr : Room k X.A) (h : PDE X c a ta wa) (hN : X.N[i]? = some x := by rfl) (hv : Vis X.env.scope x := by first | exact Or.inl rfl | exact Or.inr (Or.inl rfl) | exact Or.inr (Or.inr rfl)) (hd : (x == ("__debug__" : Str)) = false := by decide)
    (hcd : (x == ("__classdict__" : Str)) = false := by decide) : PDT X c (.Compare a [.In] [.Name x px] pos) (tB (tDIn ta (tVar i))) (wTst (wDin i false wa)) := ⟨pt_cmp (pc_din (hu1 hr) h.p (pv i hN hv hd hcd)), dt_B (de_din h.d)⟩
theorem pdt_dnotin (i : Nat) (hr : Room k X.A) (h : PDE X c a ta wa) (hN : X.N[i]? = some x := by rfl) (hv : Vis X.env.scope x := by first | exact Or.inl rfl | exact Or.inr (Or.inl rfl) | exact Or.inr (Or.inr rfl)) (hd : (x == ("__debug__" : Str)) = false := by decide)
    (hcd : (x == ("__classdict__" : Str)) = false := by decide) : PDT X c (.Compare a [.NotIn] [.Name x px] pos) (tB (tDNotIn ta (tVar i))) (wTst (wDin i true wa)) := ⟨pt_cmp (pc_dnotin (hu1 hr) h.p (pv i hN hv hd hcd)), dt_B (de_dnotin h.d)⟩
end
/-- d[k] = e at a new key -/
@[simp] def wDput (i : Nat) (w wk : WE) : WS := fun ρ O => w ρ fun d ρ0 => (∃ kvs, Rho.g ρ0 i = some (.dk kvs)) ∧ wk ρ0 fun kd ρ1 => match Rho.g ρ1 i with
  | some (.dk kvs) => match keyD kd with
    | some k => hasK kvs k = false ∧ kvs.length < 1000000 ∧ O.nx (Rho.s ρ1 i (some (.dk (kvs ++ [(k, d)]))))
    | none => False
  | _ => False
theorem ds_dput {i : Nat} (h : DE c ta wa) (h' : DE c tb wb) : DS c (sDPut (tVar i) tb ta) (wDput i wa wb) := fun σ ρ G H D O S hw k _ _ _ => by
  refine h σ ρ G H _ _ S hw fun v d ρ0 G0 H0 p0 S0 g0 i0 => ?_
  obtain ⟨⟨kvs0, e0⟩, p0⟩ := p0
  obtain ⟨l, vs0, q1, _⟩ := dk_at S0 (Rho.g_eq _ _ e0)
  refine ⟨_, q1, h' σ ρ0 G0 H0 _ _ S0 p0 fun kv kd ρ1 G1 H1 p1 S1 g1 i1 => ?_⟩
  obtain ⟨kvs, e, p⟩ := dk_g (C := fun kvs => match keyD kd with | some k => hasK kvs k = false ∧ kvs.length < 1000000 ∧ O.nx (Rho.s ρ1 i (some (.dk (kvs ++ [(k, d)])))) | none => False) p1
  obtain ⟨l', vs, h1, h2, h3, h4, h5, h6⟩ := dk_at S1 e
  rw [q1] at h1
  cases h1
  cases ek : keyD kd with
  | none => rw [ek] at p; exact p.elim
  | some key =>
    rw [ek] at p
    obtain ⟨p1, p2, p3⟩ := p
    have hlen : vs.length = kvs.length := by
      have := congrArg List.length h4
      simpa using this
    have hnone : valV vs key = none := by
      have : (valV vs key).isSome = false := by
        rw [← valV_any, ← p1, ← hasK_keys h4]
        rfl
      cases hv : valV vs key with
      | none => rfl
      | some z => rw [hv] at this; cases this
    refine ⟨l, _, rfl, by rw [keyD_is i1 ek]; exact DPut.k h2 (by rw [hlen]; exact Nat.lt_trans p2 (by decide)), ?_⟩
    rw [putK_new v hnone]
    rw [Rho.s_eq] at p3
    refine k σ _ G1 _ p3 (S1.putMe (s2 := .dk (kvs ++ [(key, d)])) e rfl q1 h3 h6 rfl rfl ?_) (g0.g.trans g1.g)
    refine ⟨l, _, rfl, upd_same, h3, ?_, ?_⟩
    · rw [List.map_append, List.map_append, h4]; rfl
    · rw [List.map_append, List.map_append]
      exact h5.snoc (i0.mono g1.g)
theorem pd_dput (i : Nat) {k : Nat} {px pos' : Pos} (hr : Room k X.A) (h : PDE X c a ta wa) (h' : PDE X c b tb wb) (hN : X.N[i]? = some x := by rfl) (hv : Vis X.env.scope x := by first | exact Or.inl rfl | exact Or.inr (Or.inl rfl) | exact Or.inr (Or.inr rfl)) (hd : (x == ("__debug__" : Str)) = false := by decide)
    (hcd : (x == ("__classdict__" : Str)) = false := by decide) (hs : swapsWith a (some (.Subscript (.Name x px) b pos')) pos.line X.env = pure false := by rfl) :
    PDS X c (.Assign [.Subscript (.Name x px) b pos'] a pos) (sDPut (tVar i) tb ta) (wDput i wa wb) := ⟨ps_dput (hu1 hr) (pv i hN hv hd hcd) h'.p h.p hs, ds_dput h.d h'.d⟩
end
def valD (kvs : List (Key × D)) (k : Key) : Option D := (kvs.find? fun kv => decide (kv.1 = k)).map (·.2)
theorem val_get {K : PySem.W.Frag} {G : Hp} {k : Key} {d : D} : ∀ {kvs : List (Key × D)} {vs : List (Key × V)}, vs.map (·.1) = kvs.map (·.1) → All K G (kvs.map (·.2)) (vs.map (·.2)) → valD kvs k = some d → ∃ v, valV vs k = some v ∧ Is K G d v
  | [], vs, _, _, h => by cases h
  | q :: r, [], e, _, h => by cases e
  | q :: r, u :: vs, e, al, h => by
    simp only [List.map_cons, List.cons.injEq] at e
    simp only [List.map_cons] at al
    obtain ⟨v, us, ev, i1, i2⟩ := al.uncons
    cases ev
    unfold valD at h
    rw [List.find?_cons] at h
    by_cases hk : q.1 = k
    · simp only [hk, decide_true] at h
      cases h
      refine ⟨u.2, ?_, i1⟩
      rw [valV_pos (by rw [e.1]; exact hk)]
    · simp only [hk, decide_false] at h
      obtain ⟨v, h1, h2⟩ := val_get e.2 i2 h
      exact ⟨v, by rw [valV_neg (by rw [e.1]; exact hk)]; exact h1, h2⟩
def putD (kvs : List (Key × D)) (k : Key) (d : D) : List (Key × D) := kvs.map fun kv => if kv.1 = k then (kv.1, d) else kv
theorem put_keys {K : PySem.W.Frag} {G : Hp} {k : Key} {d : D} {v : V} (i : Is K G d v) : ∀ {kvs : List (Key × D)} {vs : List (Key × V)}, vs.map (·.1) = kvs.map (·.1) → All K G (kvs.map (·.2)) (vs.map (·.2)) →
    (vs.map fun kv => if kv.1 = k then (kv.1, v) else kv).map (·.1) = (putD kvs k d).map (·.1) ∧ All K G ((putD kvs k d).map (·.2)) ((vs.map fun kv => if kv.1 = k then (kv.1, v) else kv).map (·.2))
  | [], vs, e, al => by
    cases vs with
    | nil => exact ⟨rfl, .nil⟩
    | cons u r => cases e
  | q :: r, [], e, _ => by cases e
  | q :: r, u :: vs, e, al => by
    simp only [List.map_cons, List.cons.injEq] at e
    simp only [List.map_cons] at al
    obtain ⟨w, us, ev, i1, i2⟩ := al.uncons
    cases ev
    obtain ⟨h1, h2⟩ := put_keys i e.2 i2
    unfold putD at h1 h2 ⊢
    by_cases hk : q.1 = k
    · have hu : u.1 = k := by rw [e.1]; exact hk
      simp only [List.map_cons, hk, hu, if_true]
      exact ⟨by rw [h1], .cons i h2⟩
    · have hu : ¬ u.1 = k := by rw [e.1]; exact hk
      simp only [List.map_cons, hk, hu, if_false]
      exact ⟨by rw [h1, e.1], .cons i1 h2⟩
section
variable {c : Cq} {X : Cx} {a b e : Expr} {es : List Expr} {ta tb te : TE} {wa wb we : WE} {p pos : Pos} {x : Str}
@[simp] def wKget (i : Nat) (y : Str) : WE := fun ρ P => match Rho.g ρ i with
  | some (.dk kvs) => match valD kvs (.inr y) with
    | some d => P d ρ
    | none => False
  | _ => False
theorem pd_kget (i : Nat) {k : Nat} {y : Str} {px py : Pos} {jj : Nat} (hr : Room k X.A) (hN : X.N[i]? = some x := by rfl) (hv : Vis X.env.scope x := by first | exact Or.inl rfl | exact Or.inr (Or.inl rfl) | exact Or.inr (Or.inr rfl)) (hd : (x == ("__debug__" : Str)) = false := by decide)
    (hcd : (x == ("__classdict__" : Str)) = false := by decide) (hs : NoSl (.Constant (.str y) jj py) := by intro _ _; rfl) :
    PDE X c (.Subscript (.Name x px) (.Constant (.str y) jj py) pos) (tDGet (tVar i) (tC (.str y))) (wKget i y) := ⟨pe_dget (hu1 hr) (pv i hN hv hd hcd) pe_str hs, fun σ ρ G H Q P S hw k => by
  obtain ⟨kvs, e, p⟩ := dk_g (C := fun kvs => match valD kvs (.inr y) with | some d => P d ρ | none => False) hw
  obtain ⟨l, vs, h1, h2, h3, h4, h5, h6⟩ := dk_at S e
  cases ek : valD kvs (.inr y) with
  | none => rw [ek] at p; exact p.elim
  | some d =>
    rw [ek] at p
    obtain ⟨v, q1, q2⟩ := val_get h4 h5 ek
    exact ⟨_, h1, l, v, rfl, q1 ▸ DGet.k (k := .inr y) h2, k v d ρ G H p S .refl q2⟩⟩
@[simp] def wKset (i : Nat) (y : Str) (w : WE) : WS := fun ρ O => w ρ fun d ρ0 => match Rho.g ρ0 i with
  | some (.dk kvs) => hasK kvs (.inr y) = true ∧ kvs.length < 1000000 ∧ O.nx (Rho.s ρ0 i (some (.dk (putD kvs (.inr y) d))))
  | _ => False
theorem pd_kset (i : Nat) {k : Nat} {y : Str} {px py pos' : Pos} {jj : Nat} (hr : Room k X.A) (h : PDE X c a ta wa) (hN : X.N[i]? = some x := by rfl) (hv : Vis X.env.scope x := by first | exact Or.inl rfl | exact Or.inr (Or.inl rfl) | exact Or.inr (Or.inr rfl)) (hd : (x == ("__debug__" : Str)) = false := by decide)
    (hcd : (x == ("__classdict__" : Str)) = false := by decide) (hs : swapsWith a (some (.Subscript (.Name x px) (.Constant (.str y) jj py) pos')) pos.line X.env = pure false := by rfl) :
    PDS X c (.Assign [.Subscript (.Name x px) (.Constant (.str y) jj py) pos'] a pos) (sDPut (tVar i) (tC (.str y)) ta) (wKset i y wa) := ⟨ps_dput (hu1 hr) (pv i hN hv hd hcd) pe_str h.p hs, fun σ ρ G H D O S hw k _ _ _ => h.d σ ρ G H _ _ S hw fun v d ρ1 G1 H1 p1 S1 g1 i1 => by
  obtain ⟨kvs, e, p0, p2, p3⟩ := dk_g (C := fun kvs => hasK kvs (.inr y) = true ∧ kvs.length < 1000000 ∧ O.nx (Rho.s ρ1 i (some (.dk (putD kvs (.inr y) d))))) p1
  obtain ⟨l, vs, h1, h2, h3, h4, h5, h6⟩ := dk_at S1 e
  have hlen : vs.length = kvs.length := by
    have := congrArg List.length h4
    simpa using this
  refine ⟨_, h1, l, _, rfl, DPut.k (k := .inr y) h2 (by rw [hlen]; exact Nat.lt_trans p2 (by decide)), ?_⟩
  have ep : putK vs (.inr y) v = vs.map fun kv => if kv.1 = .inr y then (kv.1, v) else kv := by
    unfold putK
    rw [if_pos]
    have := hasK_keys (k := .inr y) h4
    unfold hasK at this p0
    rw [this]; exact p0
  obtain ⟨j1, j2⟩ := put_keys (k := .inr y) i1 h4 h5
  rw [Rho.s_eq] at p3
  refine k σ _ G1 _ p3 (S1.putMe (s2 := .dk (putD kvs (.inr y) d)) e rfl h1 h3 h6 rfl rfl ?_) g1.g
  rw [ep]
  exact ⟨l, _, rfl, upd_same, h3, j1, j2⟩⟩
end
end DL
end

section
set_option maxRecDepth 100000
set_option maxHeartbeats 2000000
/-! An own exception over ValueError whose __init__ says super().__init__('..'); self.f = f. -/
namespace DLX
open PySem PySem.W PySem.Calls PyProof.Rows PySem.HandSPX
def iA (f : Str) (p1 p2 : Pos) : Arguments := { posonlyargs := [], args := [{ arg := "self", annotation := none, pos := p1 }, { arg := f, annotation := none, pos := p2 }], vararg := none, kwonlyargs := [], kw_defaults := [], kwarg := none, defaults := [] }
def iB (f m : Str) (q0 q1 q2 q3 q4 q5 q6 q7 q8 q9 : Pos) : List Stmt :=
  [.Expr (.Call (.Attribute (.Call (.Name "super" q0) [] [] q1) "__init__" q2) [.Constant (.str m) 0 q3] [] q4) q5, .Assign [.Attribute (.Name "self" q6) f q7] (.Name f q8) q9]
def iS (f : Str) : Scope := { kind := .function, names := [("self", .local), (f, .local), ("__class__", .free), ("super", .globalImplicit)], isGenerator := false, isCoroutine := false, more := [] }
/-- what the written part says of the class x, at C, and of its __init__, at fI -/
structure ExT (P : Program) (K : Frag) (mg : Str → Option Value) (x f : Str) (C fI : Addr) : Prop where
  gC : mg x = some (.ref C)
  cls : ∃ nm q N bs bm sn sub ab col dd k0 k1 k2 k3 k5, K.lookup C = some (excClassObj nm q C N bs bm true sn sub ab col dd k0 k1 k2 k3 k5 "ValueError.__new__") ∧ refsVE bm = true ∧ alongIn K "__init__" bm = some (some (.builtin "ValueError.__init__"))
  sa : findIn K (.ref C) "__setattr__" = some (some (.builtin "object.__setattr__"))
  ga : findIn K (.ref C) "__getattribute__" = some (some (.builtin "BaseException.__getattribute__"))
  gg : findIn K (.ref C) "__getattr__" = some none
  noN : findIn K (.ref C) f = some none
  iC : findIn K (.ref C) "__init__" = some (some (.ref fI))
  tC : typeIn K (.ref fI) = some (.type "function")
  kC : keepIn K (.ref C) = true
  exC : subIn K (.ref C) (.type "BaseException") = some true
  vaC : subIn K (.ref C) (.type "ValueError") = some true
  slC : mroIn K C (.ref C) = some true
  tyC : typeIn K (.ref C) = some (.type "type")
  hdC : hasDictIn K C = true
  te : exmOne K (.ref C) (.ref C) = some true
  st : nsIn K cStatics "thirdparty.any" = some none
  noS : mg "super" = none
  fn : ∃ (oc : Value) (od : Option Addr) (doc pm : Value) (an : Option Addr) (cda : Addr) (ct : Value) (cc : Addr) (osl : Array (Option Value)) (q : Str) (m : Str) (p1 p2 q0 q1 q2 q3 q4 q5 q6 q7 q8 q9 : Pos),
    K.lookup fI = some ⟨oc, od, .func (ksFn "__init__" q (iA f p1 p2) (iB f m q0 q1 q2 q3 q4 q5 q6 q7 q8 q9) (iS f) .none .none doc pm an (.ref cda) ct cc), osl⟩ ∧ codeIn K (.ref cda) q = true ∧
    (∃ ccl cdd vs ccs file tf, K.lookup cda = some ⟨ccl, cdd, .fields vs, ccs⟩ ∧ vs[2]? = some (.str file tf) ∧ ((P.main.file : Str) == file) = true) ∧
    (∃ cl cld csl, K.lookup cc = some ⟨cl, cld, .cell (some (.ref C)), csl⟩) ∧
    (∀ (s : Shared) (a b : Value), BindsTo s (ksFn "__init__" q (iA f p1 p2) (iB f m q0 q1 q2 q3 q4 q5 q6 q7 q8 q9) (iS f) .none .none doc pm an (.ref cda) ct cc) ⟨[a, b], []⟩ [("self", a), (f, b)]) ∧
    (∀ L, swapsWith (.Call (.Attribute (.Call (.Name "super" q0) [] [] q1) "__init__" q2) [.Constant (.str m) 0 q3] [] q4) none q5.line (ksEnv q (iS f) L fI (.ref cda) cc) = pure false) ∧
    (∀ L, ∃ pl, eval (.Call (.Attribute (.Call (.Name "super" q0) [] [] q1) "__init__" q2) [.Constant (.str m) 0 q3] [] q4) (ksEnv q (iS f) L fI (.ref cda) cc) = (do
      let ov ← attributeBase (.Call (.Name "super" q0) [] [] q1) "__init__" (ksEnv q (iS f) L fI (.ref cda) cc) (eval (.Call (.Name "super" q0) [] [] q1) (ksEnv q (iS f) L fI (.ref cda) cc))
      standAt q2.atName
      let (g, first) ← holding [ov] (getMethod ov "__init__" pl)
      callWith q4 g first (backTo q4 (starEach [.Constant (.str m) 0 q3] (ksEnv q (iS f) L fI (.ref cda) cc))) [])) ∧
    (∀ L, swapsWith (.Name f q8) (some (.Attribute (.Name "self" q6) f q7)) q9.line (ksEnv q (iS f) L fI (.ref cda) cc) = pure false)
  top : (P.main.scope.names.lookup ("super" : Str)).isSome = false
  loc : (iS f).names.lookup f = some NameKind.local
  loS : (iS f).names.lookup ("self" : Str) = some NameKind.local
  loU : (iS f).names.lookup ("super" : Str) = some NameKind.globalImplicit
  loC : (iS f).names.lookup ("__class__" : Str) = some NameKind.free
  cel : ∀ y ∈ (iS f).names, y.2 ≠ NameKind.cell
  dbg : (f == ("__debug__" : Str)) = false
  nself : f ≠ "self"
section
variable {P : Program} {w : World} {A : Around} {E : Value → Shared → Prop} {R : Result → Shared → Prop} {s : Shared} {K : Frag} {mg : Str → Option Value} {x f : Str} {C fI : Addr}
theorem one_size (v : Value) : [v].length ≤ sizeLine := by
  rw [sizeLine_eq]
  exact (by decide : 1 ≤ 16777216)
/-- what __init__ leaves of a fresh exception at x -/
structure InitEnd (f : Str) (h h' : Heap) (x C dx t1 : Addr) (v : Value) : Prop where
  keep : ∀ b o, b ≠ x → h.get? b = some o → h'.get? b = some o
  obj : h'.get? x = some { cls := .ref C, dict := some dx, data := .fields #[.ref t1, .none, .none, .none, .bool false, .none] }
  dbig : h.objs.size ≤ dx
  dne : dx ≠ x
  ns : h'.Ns1 dx (fun y => if y = f then some v else none)
theorem call_mw {prog : Program} {h : Heap} {g : Array GenState} {d : Drawn} {t : Nat} {os : OsState} {nm q : Str} {C N : Addr} {bs bm : List Value} {hdct : Bool} {sn : List Str} {sub : List Value} {ab : Bool} {col : Option Bool} {dd : Option Addr} {k0 k1 k2 k3 k5 : Option Value} {u e t0 : Addr} {rest : List Value} {Q : Value → Shared → Prop}
    (hC : h.get? C = some (excClassObj nm q C N bs bm hdct sn sub ab col dd k0 k1 k2 k3 k5 "ValueError.__new__")) (he : h.get? e = some (excO C t0)) (hu : h.get? u = some (kxs_mw "ValueError.__init__" e)) (hrest : rest.length ≤ sizeLine)
    (hq : ∀ h' t1, (∀ b o, b ≠ e → h.get? b = some o → h'.get? b = some o) → h'.get? e = some (excO C t1) → Q .none ⟨h', g, d, t, os⟩) :
    wpAny (model prog w) A (call (.ref u) rest) Q E ⟨h, g, d, t, os⟩ := by
  refine wpAny_call (codeAny_of_tree ?_)
  show wpAny _ A.in1 (callAny (.ref u) ⟨rest, []⟩) _ _ _
  simp only [callAny]
  refine wpAny_bind (wpAny_load hu ?_)
  simp only [kxs_mw, show (Value.type "method-wrapper" == Value.type "method" || Value.type "method-wrapper" == Value.type "builtin_function_or_method" || Value.type "method-wrapper" == Value.type "method-wrapper") = true by decide, if_true]
  refine KFB.if_so (by decide) ?_
  refine wpAny_bind (check_bound_init F.excBase_ValueError.toExcCallFacts hC he rfl ?_)
  refine wpAny_bind (wpAny_pure (wpAny_pure ?_))
  refine ⟨plainId_quiet F.excBase_ValueError.init.plain _, codeAny_builtin F.excBase_ValueError.initEntry ?_⟩
  exact exc_init_tree (cls := .ref C) (t0 := t0) (dv := none) (c2 := .none) (c3 := .none) (b4 := .bool false) he hrest fun h' k e' _ => hq h' _ k e'
theorem exc_init (T : ExT P K mg x f C fI) {e t0 : Addr} {v : Value} (X : K.In s.heap) (hlim : s.heap.NoLimit) (hg : s.heap.Ns mainGlobals mg) (hb : ∃ mb, s.heap.Ns builtinsNs mb ∧ ∀ x : Str, x ≠ "__name__" → mb x = bootBuiltins x)
    (hx : s.heap.get? e = some (excO C t0)) (hnx : K.lookup e = none) (hroom : A.depth < recursionLimit)
    (hq : ∀ h' tk dx t1, InitEnd f s.heap h' e C dx t1 v → R (.ok (.ret .none)) { s with heap := h', toks := tk }) :
    codeAny (model P w) A (.call (.ref fI) ⟨[.ref e, v], []⟩) R s := by
  obtain ⟨oc, od, doc, pm, an, cda, ct, cc, osl, q, m, p1, p2, q0, q1, q2, q3, q4, q5, q6, q7, q8, q9, ho, hcd, ⟨ccl, cdd, vs, ccs, file, tf, hcode, hvs, hfile⟩, ⟨cl, cld, csl, hcell⟩, hbind, hsw⟩ := T.fn
  obtain ⟨nm, qn, N, bs, bm, sn, sub, ab, col, dd, k0, k1, k2, k3, k5, hC, hbm, hal⟩ := T.cls
  obtain ⟨mb, hmb, hboot⟩ := hb
  have hcl : clsIn K C = some { name := nm, bases := bs, mro := .ref C :: bm, ns := N, qualname := qn, hasDict := true, slotNames := sn, subclasses := sub, abstract := ab, collection := col, hasDel := false } := by unfold clsIn; rw [hC] <;> rfl
  refine ks_codeAny_call_defAt (binds := [("self", .ref e), (f, v)]) hroom (X _ _ ho) rfl hlim (codeRec_of X hcd) rfl (hbind _ _ _) T.cel (fun y hy => ?_) (fun h₀ hns hk => ?_) rfl rfl rfl
  · rcases List.mem_cons.mp hy with rfl | hy
    · exact T.loS
    · rcases List.mem_cons.mp hy with rfl | hy
      · exact T.loc
      · cases hy
  · have X0 : K.In h₀ := X.keeps hk
    have ls : List.lookup ("self" : Str) [(f, v), (("self" : Str), Value.ref e)] = some (.ref e) := by
      have : (("self" : Str) == f) = false := by
        cases h : (("self" : Str) == f) with
        | false => rfl
        | true => exact absurd (eq_of_beq h).symm T.nself
      simp [List.lookup, this]
    have lf : List.lookup f [(f, v), (("self" : Str), Value.ref e)] = some v := by simp [List.lookup]
    obtain ⟨hp, g, d, tk, os⟩ := s
    have heL : e ≠ hp.objs.size := Nat.ne_of_lt (Heap.lt_size hx)
    obtain ⟨pl, hpl⟩ := hsw.2.1 hp.objs.size
    refine ks_wpAt_execs_cons (ks_wpAt_Expr_any (ks_wpAt_MethodCall (pl := pl) (he := hpl) (ks_wpAt_super_base (f := fI) (cc := cda) T.loU T.loC rfl rfl (hk _ _ (X _ _ ho)) rfl rfl rfl (hk _ _ (X _ _ hcode)) rfl hvs hfile T.top ?_)) rfl (hsw.1 _))
    refine ks_loadName_global rfl T.loU (loadGlobal_builtin (hg.keeps hk) T.noS (hmb.keeps hk) (hboot "super" (by decide)) ⟨rfl, ?_⟩)
    refine wpAny_loadName_free rfl T.loC rfl ⟨_, hk _ _ (X _ _ hcell), rfl⟩ ?_
    refine wpAny_loadName_local rfl T.loS hns ls ?_
    refine ks_wpAny_isType_cls (X0 _ _ hC) rfl ⟨rfl, ?_⟩
    refine ks_wpAny_call_super (X0 _ _ hC) rfl (hk _ _ hx) rfl (fun c z => by cases z) (looks_mroIn X0 T.slC) (fun h₁ e₁ k₁ => ?_)
    have X1 : K.In h₁ := X0.keeps k₁
    have hx1 := k₁ _ _ (hk _ _ hx)
    have I1 : InstAt h₁ e (excO C t0) C none := ⟨hx1, rfl, rfl, trivial⟩
    refine kxs_getMethod kxs_ValueError e₁ (looks_opaque X1 T.st) (l₀ := .ref C :: bm) (l := bm) ?_ ?_ X1 hal (I1.type.andThen (looks_subIn X1 T.vaC)) (ks_ne X1 I1 hcl) rfl ?_
    · exact fun A Q E s k q => wpAny_bind ((looks_clsIn X1 hcl) A _ E s k (wpAny_pure q))
    · exact ESX.drop_own C bm
    have he2 : (h₁.push (kxs_mw "ValueError.__init__" e)).get? e = some (excO C t0) := Heap.get?_push_of_some _ hx1
    have hC2 : (h₁.push (kxs_mw "ValueError.__init__" e)).get? C = some (excClassObj nm qn C N bs bm true sn sub ab col dd k0 k1 k2 k3 k5 "ValueError.__new__") := Heap.get?_push_of_some _ (X1 _ _ hC)
    have hu : (h₁.push (kxs_mw "ValueError.__init__" e)).get? h₁.objs.size = some (kxs_mw "ValueError.__init__" e) := Heap.get?_push_at rfl rfl
    have k2 : ∀ b o, hp.get? b = some o → (h₁.push (kxs_mw "ValueError.__init__" e)).get? b = some o := fun b o z => Heap.get?_push_of_some _ (k₁ _ _ (hk _ _ z))
    have hns2 : (h₁.push (kxs_mw "ValueError.__init__" e)).Ns hp.objs.size (fun x => List.lookup x [(f, v), (("self" : Str), Value.ref e)]) := hns.keeps fun b o z => Heap.get?_push_of_some _ (k₁ _ _ z)
    have X2 : K.In (h₁.push (kxs_mw "ValueError.__init__" e)) := X.keeps k2
    revert he2 hC2 hu k2 hns2 X2
    generalize h₁.push (kxs_mw "ValueError.__init__" e) = h₂
    intro he2 hC2 hu k2 hns2 X2
    refine kxs_callWith (i := "ValueError.__init__") (x := e) rfl (evalArgs_plain (spliced_more (Constant_str (spliced_none ⟨hu, ?_⟩)) rfl))
    refine call_mw hC2 he2 hu (one_size _) (fun h₃ t1 k₃ e₃ => ?_)
    show PySem.wpAt _ _ _ (execs [_] _) _ _ _
    have neL : hp.objs.size ≠ e := fun z => heL z.symm
    have hns3 : h₃.Ns hp.objs.size (fun x => List.lookup x [(f, v), (("self" : Str), Value.ref e)]) := by
      obtain ⟨oL, es, ep, hL, r⟩ := hns2
      exact ⟨oL, es, ep, k₃ _ _ neL hL, r⟩
    have X3 : K.In h₃ := fun b o z => k₃ b o (fun y => by rw [y, hnx] at z; cases z) (X2 b o z)
    have big : hp.objs.size < h₃.objs.size := hns3.lt
    refine ks_wpAt_execs_cons (ks_wpAt_Assign_Attr (wpAt_of_wpAny (ESX.ldL hns3 lf ?_ rfl T.loc T.dbg)) (hsw.2.2 _))
    refine ESX.ldL hns3 ls ?_ rfl T.loS rfl
    refine set_plain X3 (ox := excO C t1) (od := none) ⟨e₃, rfl, rfl, trivial⟩ T.sa ?_
    refine exc_osa X3 e₃ hcl (show refsVE (.ref C :: bm) = true from hbm) rfl T.noN (fun h₄ tk₄ dx k₄ dn dne hx₄ hn₄ => ?_)
    show PySem.wpAt _ _ _ (execs [] _) _ _ _
    refine wpAt_of_wpAny (wpAny_execs_nil ?_)
    exact hq h₄ tk₄ dx t1 ⟨fun b o hb z => k₄ b o hb (k₃ b o hb (k2 b o z)), hx₄, Nat.le_of_lt (Nat.lt_of_lt_of_le big dn), dne, hn₄⟩
end
end DLX
end

section
set_option maxRecDepth 100000
set_option maxHeartbeats 2000000
namespace DLX
open PySem PySem.W PySem.Calls PyProof.Rows PySem.HandSPX
section
variable {P : Program} {w : World} {A : Around} {E : Value → Shared → Prop} {R : Result → Shared → Prop} {s : Shared} {K : Frag} {mg : Str → Option Value} {x f : Str} {C fI : Addr}
/-- an exception just made -/
structure OwnMade (f : Str) (h h' : Heap) (e C d : Addr) (v : Value) : Prop where
  keep : ∀ b o, h.get? b = some o → h'.get? b = some o
  new : h.objs.size ≤ e
  obj : ∃ oe vs, h'.get? e = some oe ∧ oe.cls = .ref C ∧ oe.dict = some d ∧ oe.data = .fields vs ∧ vs[1]? = some .none
  dbig : h.objs.size ≤ d
  dne : d ≠ e
  ns : h'.Ns1 d (fun y => if y = f then some v else none)
theorem exc_made (T : ExT P K mg x f C fI) {v : Value} (X : K.In s.heap) (hlim : s.heap.NoLimit) (hg : s.heap.Ns mainGlobals mg) (hb : ∃ mb, s.heap.Ns builtinsNs mb ∧ ∀ x : Str, x ≠ "__name__" → mb x = bootBuiltins x) (hroom : A.depth + 1 < recursionLimit)
    (hq : ∀ h' tk e d, OwnMade f s.heap h' e C d v → R (.ok (.ret (.ref e))) { s with heap := h', toks := tk }) :
    codeAny (model P w) A (.call (.ref C) ⟨[v], []⟩) R s := by
  obtain ⟨nm, q, N, bs, bm, sn, sub, ab, col, dd, k0, k1, k2, k3, k5, hC, hbm, hal⟩ := T.cls
  obtain ⟨hp, g, dr, tk, os⟩ := s
  have k : ∀ b o, hp.get? b = some o → ((hp.push (kdv_tup [v])).push (excO C hp.objs.size)).get? b = some o := fun b o e => Heap.get?_push_of_some _ (Heap.get?_push_of_some _ e)
  have hget : ((hp.push (kdv_tup [v])).push (excO C hp.objs.size)).get? (hp.objs.size + 1) = some (excO C hp.objs.size) := by heap_get
  have hnx : K.lookup (hp.objs.size + 1) = none := by
    cases e : K.lookup (hp.objs.size + 1) with
    | none => rfl
    | some o =>
      have z : hp.get? (hp.objs.size + 1) = some o := X _ _ e
      exact absurd (Nat.lt_of_succ_lt (Heap.lt_size z)) (Nat.lt_irrefl _)
  refine call_own F.excBase_ValueError (fun X => refsVE_contains X bm hbm) (X _ _ hC) (looks_findIn X T.iC) (fun self => bind_fn X self T.tC) (one_size v) ?_
  refine exc_init (s := ⟨(hp.push (kdv_tup [v])).push (excO C hp.objs.size), g, dr, tk, os⟩) T (X.keeps k) (hlim.keeps k) (hg.keeps k) ?_ hget hnx ?_ fun h' tk' dx t1 ⟨k', hx, dn, dne, hns⟩ => ?_
  · obtain ⟨mb, h1, h2⟩ := hb
    exact ⟨mb, h1.keeps k, h2⟩
  · show A.depth + 1 < recursionLimit
    exact hroom
  · have old : ∀ b o, hp.get? b = some o → h'.get? b = some o := fun b o e => k' b o (Nat.ne_of_lt (Nat.lt_succ_of_lt (Heap.lt_size e))) (k b o e)
    have z : hp.objs.size + 1 + 1 ≤ dx := by
      first
        | (simpa only [Heap.size_push] using dn)
        | exact dn
        | (have q := dn; rw [Heap.size_push, Heap.size_push] at q; exact q)
    exact ⟨rfl, hq h' tk' (hp.objs.size + 1) dx ⟨old, Nat.le_succ _, ⟨_, _, hx, rfl, rfl, rfl, rfl⟩, Nat.le_trans (Nat.le_trans (Nat.le_succ _) (Nat.le_succ _)) z, dne, hns⟩⟩
end
end DLX
namespace DL
open PySem PySem.Spec PyProof.Rows L2
theorem relO_one {f : Str} {v : V} {v' : Value} (r : RelV v v') (g : Str) : RelO (List.lookup g [(f, v)]) (if g = f then some v' else none) := by
  by_cases hw : g = f
  · subst hw
    rw [if_pos rfl]
    have q : List.lookup g [(g, v)] = some v := by simp [List.lookup]
    rw [q]
    exact r
  · rw [if_neg hw]
    have qw : (g == f) = false := by simpa using hw
    have q2 : List.lookup g [(f, v)] = none := by simp [List.lookup, qw]
    rw [q2]
    trivial
section
variable {X : Cx} {c : Cq} {C fI : Addr} {x f : Str} {a b e : Expr} {ta tb te : TE} {wa wb we : WE} {pos pos' p : Pos} {k j : Nat}
/-- C(e) -/
def tMkE (C : Addr) (f : Str) (ta : TE) : L2.St → Hp → XK → Prop := fun σ H Q => ta σ H fun v H1 => ∀ d, H1 d = none → Q (.ref C) (some d) (upd H1 d (.xd [(f, v)]))
theorem pmk_exc (T : DLX.ExT X.prog X.K X.mg x f C fI) (hr : Room k X.A) (ha : PE X a ta) (hg : Gl X x) (hdb : (x == ("__debug__" : Str)) = false := by decide)
    (he : starEach (a :: []) X.env = (false, eval a X.env) :: starEach [] X.env := by rfl) (hpl : (backTo pos (starEach [] X.env)).any (·.1) = false := by rfl) :
    PMk X (.Call (.Name x p) [a] [] pos) (tMkE C f ta) := by
  intro pins s σ H Q I h
  refine wpAny_Call_Name_kw (ld_glob I hg T.gC ?_ hdb)
  refine PySem.W.callWith_K (h₀ := X.base) I.ok.mod.kin T.kC ?_ he hpl
  refine spliced_more (thn (ha.run pins s σ H _ I h) fun v' s1 hh => spliced_none ?_) he
  obtain ⟨v, H1, I1, rv, q1⟩ := hh
  refine ⟨I1.kIn, ?_⟩
  show wpAny _ _ (call (.ref C) [v']) _ _ _
  have hlim := I1.nolimit
  have hgl := I1.mod.glob.keeps I1.bk
  have hbl : ∃ mb, s1.heap.Ns builtinsNs mb ∧ ∀ x : Str, x ≠ "__name__" → mb x = bootBuiltins x := by
    obtain ⟨mb, h1, h2⟩ := I1.mod.blt
    exact ⟨mb, h1.keeps I1.bk, h2⟩
  obtain ⟨hp, g, dr, tk, os⟩ := s1
  refine wpAny_call (DLX.exc_made T I1.kIn hlim hgl hbl (by have := hr.dp; omega) fun h' tk' e d M => ?_)
  show MkP X pins σ Q (.ref e) ⟨h', g, dr, tk', os⟩
  obtain ⟨oe, fv, hoe, hc, hd, hdat, h1⟩ := M.obj
  have hns := M.ns
  obtain ⟨G', g1, g2⟩ := restrict h' fun b => decide (b ≠ e)
  have gk : ∀ b, b ≠ e → G'.get? b = h'.get? b := fun b hb => g1 b (decide_eq_true hb)
  have ge : G'.get? e = none := g2 e (by simp)
  have old : ∀ b o, hp.get? b = some o → G'.get? b = some o := fun b o q => (gk b (Nat.ne_of_lt (Nat.lt_of_lt_of_le (Heap.lt_size q) M.new))).trans (M.keep b o q)
  have ob : ObjOk X.prog X.w (upd H1 d (.xd [(f, v)])) G' d (.xd [(f, v)]) :=
    ⟨_, hns.at (fun o q => (gk d M.dne).trans q), fun g => relO_one rv g⟩
  have J : Inv X pins σ (upd H1 d (.xd [(f, v)])) ⟨G', g, dr, tk', os⟩ := I1.laid (t' := tk') old M.dbig ob
  refine ⟨e, oe, fv, ⟨G', g, dr, tk', os⟩, _, .ref C, some d, rfl, J, fun b o q => ?_, ge, hoe, ⟨hc, hd⟩, hdat, h1, ?_, rfl, I1.bare, raises_own T.exC T.tyC, q1 d (I1.hok.fresh M.dbig)⟩
  · by_cases hb : b = e
    · have q' : G'.get? b = some o := q
      rw [hb, ge] at q'; cases q'
    · exact (gk b hb).symm.trans q
  · rw [upd_ne (Ne.symm M.dne)]
    exact I1.hok.fresh M.new
/-- raise C(e) -/
structure Rai (P : Program) (K : PySem.W.Frag) (mg : Str → Option Value) (x f : Str) (C : Addr) : Prop where
  ex : ∃ fI, DLX.ExT P K mg x f C fI
@[simp] def wRaise (C : Addr) (f : Str) (XP : XPr) (w : WE) : WS := fun ρ _ => w ρ fun d _ => XP C [f] [d]
theorem pd_raise (R : Rai X.prog X.K X.mg x f C) (hr : Room k X.A) (hg : Gl X x) (tk : Takes X (fun cls d _ H => c.E cls d H)) (ha : PDE X c a ta wa) (hc : X.calm = true := by rfl) (hdb : (x == ("__debug__" : Str)) = false := by decide)
    (he : starEach (a :: []) X.env = (false, eval a X.env) :: starEach [] X.env := by rfl) (hpl : (backTo pos (starEach [] X.env)).any (·.1) = false := by rfl) :
    PDS X c (.Raise (some (.Call (.Name x p) [a] [] pos)) none pos') (fun _ σ H => tMkE C f ta σ H fun cls d H' => c.E cls d H') (wRaise C f c.XP wa) := by
  obtain ⟨fI, T⟩ := R.ex
  refine ⟨ps_raise hc tk (pmk_exc T hr ha.p hg hdb he hpl), fun σ ρ G H D O S hw _ _ _ _ => ha.d σ ρ G H _ _ S hw fun v d ρ1 G1 H1 p1 S1 g1 i1 dd hd => ?_⟩
  have S2 := S1.newH (o := .xd [(f, v)]) hd
  exact c.ex C [f] [d] dd [v] G1 _ p1 S2.gg S2.gh S2.eh S2.nw (S1.efree hd) upd_same (.cons i1 .nil)
/-! ### try: a op b; .. except X as e: .. -/
/-- what a suite's context knows of the exception it holds -/
def XcOk (c : Cq) (C : Addr) (nm : List Str) (cls : Value) (d : Option Addr) (ds : List D) : Prop := ∀ σ ρ G H, StOk c σ ρ G H → cls = .ref C ∧ ∃ dd vs, d = some dd ∧ G dd = some (.xd (nm.zip vs)) ∧ All c.K G ds vs
def cqVoid (K : PySem.W.Frag) : Cq := ⟨K, fun a => if a = 0 then some (.lst []) else none, fun a => if a = 0 then some (.tup []) else none, none, fun _ _ _ => False, fun _ _ _ => False, fun _ _ _ _ _ _ _ x => x.elim⟩
theorem void_ok {K : PySem.W.Frag} {C : Addr} {nm : List Str} {cls : Value} {d : Option Addr} {ds : List D} : XcOk (cqVoid K) C nm cls d ds := fun σ ρ G H S => by
  have h1 : H 0 = some (.lst []) := S.gh _ _ (S.gg 0 (.lst []) rfl)
  have h2 : H 0 = some (.tup []) := S.eh 0 (.tup []) rfl (fun z => by cases z)
  rw [h1] at h2
  cases h2
/-- e.f, e the exception that the suite holds -/
def tEf (C : Addr) (f : Str) (a : Addr) (cls : Value) (d : Option Addr) (te : TE) : TE := fun σ H Q => te σ H fun x H1 => x = .ref a ∧ cls = .ref C ∧ ∃ (dd : Addr) (v : V), d = some dd ∧ H1 dd = some (.xd [(f, v)]) ∧ Q v H1
@[simp] def wEf (ds : List D) (we : WE) (a : Addr) : WE := fun ρ P => we ρ fun x ρ1 => x = .ref a ∧ match ds with
  | [d] => P d ρ1
  | _ => False
theorem pe_ef {a : Addr} {oe : Obj} {cls : Value} {d : Option Addr} {pn : List (Addr × Obj)} {e : Expr} {te : TE} {pos : Pos} (T : DLX.ExT X.prog X.K X.mg x f C fI) (hz : Zc cls d oe) (hf : ∃ vs, oe.data = .fields vs) (he : PE (X.suite a ((a, oe) :: pn)) e te)
    (hb : attributeBase e f X.env (eval e X.env) = eval e X.env := by rfl) :
    PE (X.suite a ((a, oe) :: pn)) (.Attribute e f pos) (tEf C f a cls d te) := by
  refine ⟨fun pins s σ H Q I h => ?_⟩
  refine attr_of hb (thn (he.run pins s σ H _ I h) fun u s1 hh => ?_)
  obtain ⟨x, H1, I1, rx, ex, ec, dd, v, ed, ea, q⟩ := hh
  subst ex
  obtain rfl : u = Value.ref a := rx
  subst ec
  subst ed
  obtain ⟨ha, _⟩ := I1.pin (a, oe) (List.mem_append_left _ List.mem_cons_self)
  obtain ⟨vs, hd⟩ := hf
  have hx : ObjOk X.prog X.w H1 s1.heap dd (.xd [(f, v)]) := I1.hok dd _ ea
  obtain ⟨mA, hns, hr⟩ := hx
  obtain ⟨od, ho, hl⟩ := lookIn_ns hns
  have l : List.lookup f [(f, v)] = some v := by simp [List.lookup]
  obtain ⟨u, hu, ru⟩ := RelO.some_of (v := v) (o := mA f) (by rw [← l]; exact hr f)
  have J : PySem.W.InstAt s1.heap a oe C (some od) := ⟨ha, hz.1, by unfold PySem.W.notCls; rw [hd] <;> rfl, by rw [hz.2]; exact ho⟩
  exact HandSPX.exc_get I1.kIn J T.ga T.gg T.exC (PySem.W.findObj_own T.hdC T.noN rfl (by rw [hl, hu])) (handed_of ru) ⟨v, H1, I1.tok _, ru, q⟩
theorem pd_ef {a : Addr} {oe : Obj} {cls : Value} {d : Option Addr} {pn : List (Addr × Obj)} {ds : List D} (R : Rai X.prog X.K X.mg x f C) (hz : Zc cls d oe) (hf : ∃ vs, oe.data = .fields vs) (ok : XcOk c C [f] cls d ds) (h : PDE (X.suite a ((a, oe) :: pn)) c e te we)
    (hb : attributeBase e f X.env (eval e X.env) = eval e X.env := by rfl) : PDE (X.suite a ((a, oe) :: pn)) c (.Attribute e f pos) (tEf C f a cls d te) (wEf ds we a) := by
  obtain ⟨fI, T⟩ := R.ex
  refine ⟨pe_ef T hz hf h.p hb, fun σ ρ G H Q P S hw k => h.d σ ρ G H _ _ S hw fun v dv ρ1 G1 H1 p1 S1 g1 i1 => ?_⟩
  obtain ⟨rfl, p1⟩ := p1
  obtain ⟨hc, dd, vs, hd, hG, al⟩ := ok σ ρ1 G1 H1 S1
  cases i1
  cases ds with
  | nil => exact p1.elim
  | cons y r =>
    cases r with
    | cons z r => exact p1.elim
    | nil =>
      obtain ⟨v, us, rfl, i1, i2⟩ := al.uncons
      rw [i2.unnil] at hG
      exact ⟨rfl, hc, dd, v, hd, S1.gh _ _ hG, k v y ρ1 G1 H1 p1 S1 g1 i1⟩
/-- a suite's context: nothing is raised there -/
abbrev cqS (K : PySem.W.Frag) (G E0 : Hp) : Cq := ⟨K, G, E0, none, fun _ _ _ => False, fun _ _ _ => False, fun _ _ _ _ _ _ _ x => x.elim⟩
theorem cqS_void {K : PySem.W.Frag} : cqVoid K = cqS K (fun a => if a = 0 then some (.lst []) else none) (fun a => if a = 0 then some (.tup []) else none) := rfl
def tOpS (r : L2.St → R2) (ta tb : TE) : TE := fun σ H Q => ta σ H fun x H1 => tb σ H1 fun y H2 => r σ x y H2 Q
theorem pe_opS {op : Operator} {r : L2.St → R2} (ho : ∀ (pins : List (Addr × Obj)) (s : Shared) (σ : L2.St) (H : Hp) (x y : V) (v u : Value) (Q : VK), Inv X pins σ H s → RelV x v → RelV y u → r σ x y H Q →
    wpAny (model X.prog X.w) X.A (binaryOp op v u) (EP X pins σ Q) X.xe s) (ha : PE X a ta) (hb : PE X b tb) : PE X (.BinOp a op b pos) (tOpS r ta tb) := by
  refine ⟨fun pins s σ H Q I h => ?_⟩
  exact wpAny_BinOp (binT ha hb I h fun v u s2 x y H2 I2 rx ry q => ho pins s2 σ H2 x y v u Q I2 rx ry q)
theorem op_ownS {X : Cx} {op : Operator} {CX : CXT} {f C : Addr} {fd : FuncData} {ps : List Str} {sp : Sp} {E : L2.St → XK} (F : FnOk X.prog X.w X.K X.mg X.base CX k f fd ps sp) (hr : Room k X.A) (hb : Binds X.K fd ps []) (hx : ∀ σ, PassesAt CX X σ (E σ)) (hc : PySem.W.selfFirst X.K C = true)
    (hs : PySem.W.findIn X.K (.ref C) (PySem.dunder op.info.2) = some (some (.ref f))) (hf : PySem.W.isFn X.K (.ref f) = true)
    (pins : List (Addr × Obj)) (s : Shared) (σ : L2.St) (H : Hp) (x y : V) (v u : Value) (Q : VK) (I : Inv X pins σ H s) (rx : RelV x v) (ry : RelV y u) (h : rOwnB C sp (E σ) x y H Q) :
    wpAny (model X.prog X.w) X.A (binaryOp op v u) (EP X pins σ Q) X.xe s := by
  obtain ⟨a, b, dx, dy, fs, gs, rfl, rfl, ha, hb', hsp⟩ := h
  cases rx
  cases ry
  obtain ⟨mA, J, _⟩ := ins_get I.hok ha
  obtain ⟨mB, J', _⟩ := ins_get I.hok hb'
  obtain ⟨od, J, _⟩ := J.look
  obtain ⟨od', J', _⟩ := J'.look
  obtain ⟨m, hF⟩ := I.fr
  refine PySem.W.binop_K hF I.ok.mod.kin J J'.type hc hs hf (thn (run_fnS F hr hb (hx σ) I (vs := [.ref a, .ref b]) (.cons rfl (.cons rfl .nil)) hsp) fun u s' z => cmpBack z)
theorem StOk.base {c' : Cq} {σ : L2.St} {ρ : Rho} {G H G0 : Hp} (S : StOk c' σ ρ G H) (hK : c'.K = c.K) (hE : c'.E0 = c.E0) (hm : c'.mu = c.mu) (hG : c'.G0 = G0) (g0 : Same c.G0 G0) (nw : ∀ a o, G0 a = some o → c.G0 a = some o ∨ c.E0 a = none) : StOk c σ ρ G H := by
  obtain ⟨h1, h2, h3, h4, h5, h6, h7, h8, h9⟩ := S
  rw [hE, hm] at h3
  rw [hm] at h4
  rw [hG, hE] at h5
  rw [hG] at h1
  rw [hK, hE, hm] at h7
  rw [hm] at h8
  exact ⟨g0.trans h1, h2, h3, h4, fun a o e => by
    rcases h5 a o e with z | z
    · exact nw a o z
    · exact .inr z, h6, h7, h8, h9⟩
/-- a slot is emptied -/
theorem StOk.drop {σ : L2.St} {ρ : Rho} {G H : Hp} (S : StOk c σ ρ G H) (i : Nat) : StOk c (σ.set i none) (ρ.set i none) G H := by
  have back : ∀ (j : Nat) (s : Sl), (ρ.set i none)[j]? = some (some s) → i ≠ j ∧ ρ[j]? = some (some s) := fun j s e => by
    rw [List.getElem?_set] at e
    by_cases h : i = j
    · rw [if_pos h] at e; split at e <;> cases e
    · rw [if_neg h] at e; exact ⟨h, e⟩
  have sg : ∀ (j : Nat), i ≠ j → (σ.set i none)[j]? = σ[j]? := fun j h => by rw [List.getElem?_set, if_neg h]
  refine ⟨S.gg, S.gh, S.eh, S.mh, S.nw, by simp [S.len], fun j s e => ?_, fun j s e m l hl => ?_, fun j k s s' hjk e1 e2 o1 o2 l h1 => ?_⟩
  · rw [sg j (back j s e).1]; exact S.sl j s (back j s e).2
  · rw [sg j (back j s e).1] at hl; exact S.mo j s (back j s e).2 m l hl
  · rw [sg j (back j s e1).1] at h1
    rw [sg k (back k s' e2).1]
    exact S.dj j k s s' hjk (back j s e1).2 (back k s' e2).2 o1 o2 l h1
@[simp] def wTryO (C : Addr) (spec : Spc) (CE : Addr) (f : Str) (i : Nat) (wa wb : WE) (wr : WS) (wh : List D → Addr → WS) : WS := fun ρ O => wa ρ fun x ρ1 => wb ρ1 fun y ρ2 => match x, y with
  | .ins C1 n1 xs, .ins C2 n2 ys => C1 = C ∧ C2 = C ∧ spec [.ins C1 n1 xs, .ins C2 n2 ys] (fun _ => wr ρ2 O) fun C' nm ds => C' = CE ∧ nm = [f] ∧ ∀ a, wh ds a (Rho.s ρ2 i (some (.sh (.ref a)))) { nx := fun ρ' => O.nx (Rho.s ρ' i none), rt := O.rt, bk := fun ρ' => O.bk (Rho.s ρ' i none), ct := fun ρ' => O.ct (Rho.s ρ' i none) }
  | _, _ => False
theorem pd_tryO {C CE : Addr} {op : Operator} {spec : Spc} {i : Nat} {n : Str} {rest suite : List Stmt} {b₀ : Stmt} {p1 p2 np pos : Pos} {tr : TS} {wr : WS} {ts : Addr → Value → Option Addr → TS} {wh : List D → Addr → WS}
    (M : Opr X.prog X.w X.K X.mg X.base k C (PySem.dunder op.info.2) 2 spec) (hC : PySem.W.selfFirst X.K C = true) (R : Rai X.prog X.K X.mg x f CE) (hr : Room j X.A) (hk : k ≤ j) (hm : c.mu = none) (hs : X.stack = X.env :: X.outer) (hf : X.env.frame = some X.env.locals) (hN : X.N.Nodup) (hi : X.N[i]? = some n) (hln : X.env.kindOf n = some .local) (hg : Gl X x)
    (ha : ∀ pn xe, PDE (X.tr pn xe) c a ta wa) (hb : ∀ pn xe, PDE (X.tr pn xe) c b tb wb) (hrest : ∀ pn xe, PDSs (X.tr pn xe) c rest tr wr)
    (hsu : ∀ (a : Addr) (oe : Obj) (cls : Value) (d : Option Addr) (pn : List (Addr × Obj)) (G E0 : Hp) (ds : List D), Zc cls d oe → (∃ vs, oe.data = .fields vs) → XcOk (cqS X.K G E0) CE [f] cls d ds → PDSs (X.suite a ((a, oe) :: pn)) (cqS X.K G E0) (b₀ :: suite) (ts a cls d) (wh ds a))
    (hdb : (x == ("__debug__" : Str)) = false := by decide) (hK : X.K = c.K := by rfl) (hsw : swapsWith (.BinOp a op b p1) none p2.line X.env = pure false := by rfl) :
    PDS X c (.Try (.Expr (.BinOp a op b p1) p2 :: rest) [.ExceptHandler (some (.Name x np)) (some n) (b₀ :: suite) pos'] [] [] pos)
      (fun D σ H => tSeq (tDrop (tOpS (fun σ => rOwnB C (SpD X.K 2 spec) (L2.WE (wAs X.K (.ref CE) i ts (fun _ _ _ _ => False) D) σ)) ta tb)) tr D σ H) (wTryO C spec CE f i wa wb wr wh) := by
  obtain ⟨fo, fd, ps, hs', hf', F, hbi⟩ := M.ex
  obtain ⟨fI, T⟩ := R.ex
  refine ⟨ps_try_as (tb := fun W => tSeq (tDrop (tOpS (fun σ => rOwnB C (SpD X.K 2 spec) (L2.WE W σ)) ta tb)) tr) (Wout := fun _ _ _ _ => False) hs hf hN hi hln ⟨hg, hdb, .inl T.gC⟩ takes0
    (fun W pn xe tk _ => pss_cons (ps_expr (pe_opS (op_ownS (X := X.tr pn xe) F (hr.mono hk) hbi (fun σ => passAt tk σ) hC hs' hf') (ha pn xe).p (hb pn xe).p) hsw) (hrest pn xe).p)
    (fun a oe cls d pn hz hfi => (hsu a oe cls d pn _ _ [] hz hfi (cqS_void ▸ void_ok)).p), ?_⟩
  intro σ ρ G H D O S hw k1 k2 k3 k4
  refine (ha X.pn X.xe).d σ ρ G H _ _ S hw fun v d ρ1 G1 H1 p1 S1 g1 i1 => (hb X.pn X.xe).d σ ρ1 G1 H1 _ _ S1 p1 fun v2 d2 ρ2 G2 H2 p2 S2 g2 i2 => ?_
  cases d <;> cases d2 <;> first | exact p2.elim | skip
  obtain ⟨rfl, rfl, p2⟩ := p2
  have i1' := i1.mono g2.g
  have i2' := i2
  have j1 := i1'
  cases j1 with
  | ins h1 h2 h3 h4 =>
    cases i2 with
    | ins q1 q2 q3 q4 =>
      refine ⟨_, _, _, _, _, _, rfl, rfl, S2.gh _ _ h1, S2.gh _ _ q1, G2, _, _, _, S2.gh, ?_, rfl, p2, fun v d H' pd hh i => ?_, fun C' nm xs dd us H' xp hh hd he al => ?_⟩
      · rw [hK]; exact .cons i1' (.cons i2' .nil)
      · exact (hrest X.pn X.xe).d σ ρ2 _ H' D O (S2.ext hh) pd (fun σ' ρ' G' H' p S' g => k1 σ' ρ' G' H' p S' ((g1.trans g2).g.trans ((ext_same S2.gh).trans g)))
          (fun v d σ' ρ' G' H' p S' g i => k2 v d σ' ρ' G' H' p S' ((g1.trans g2).g.trans ((ext_same S2.gh).trans g)) i) (fun σ' ρ' G' H' p S' g => k3 σ' ρ' G' H' p S' ((g1.trans g2).g.trans ((ext_same S2.gh).trans g)))
          (fun σ' ρ' G' H' p S' g => k4 σ' ρ' G' H' p S' ((g1.trans g2).g.trans ((ext_same S2.gh).trans g)))
      · obtain ⟨rfl, rfl, wx⟩ := xp
        refine ⟨true, T.te, fun _ ax hax => ?_, fun z => by cases z⟩
        have S3 := S2.ext hh
        have hdG : extG G2 H2 H' dd = some (.xd ([f].zip us)) := (ext_new hd).trans he
        have gg := (g1.trans g2).g.trans (ext_same (H' := H') S2.gh)
        have S4 : StOk (cqS X.K (extG G2 H2 H') c.E0) (σ.set i (some (.ref ax))) (ρ2.set i (some (.sh (.ref ax)))) (extG G2 H2 H') H' := by
          obtain ⟨s1, s2, s3, s4, s5, s6, s7, s8, s9⟩ := S3.set (H0 := H') i (s := .sh (.ref ax)) (v := .ref ax) (.sh (.ref ax))
          rw [hm] at s3 s4 s7 s8
          rw [← hK] at s7
          exact ⟨Same.refl _, s2, s3, s4, fun a o e => .inl e, s6, s7, s8, s9⟩
        have back : ∀ {σ' ρ' G3 H3}, StOk (cqS X.K (extG G2 H2 H') c.E0) σ' ρ' G3 H3 → StOk c σ' ρ' G3 H3 := fun {σ' ρ' G3 H3} S' => S'.base hK rfl hm.symm rfl S3.gg S3.nw
        have suite := (hsu ax { cls := .ref C', dict := some dd, data := .fields #[] } (.ref C') (some dd) [] (extG G2 H2 H') c.E0 xs ⟨rfl, rfl⟩ ⟨_, rfl⟩ (fun σ ρ G H S => ⟨rfl, dd, us, rfl, S.gg _ _ hdG, al.mono S.gg⟩)).d
        have wx' := wx ax
        rw [Rho.s_eq] at wx'
        refine suite _ _ _ _ _ _ S4 wx' (fun σ' ρ' G' H' p S' g => ?_) (fun v d σ' ρ' G' H' p S' g i => k2 v d σ' ρ' G' H' p (back S') (gg.trans g) (by rw [← hK]; exact i)) (fun σ' ρ' G' H' p S' g => ?_) (fun σ' ρ' G' H' p S' g => ?_)
        · exact k1 _ _ G' H' (by rw [← Rho.s_eq]; exact p) ((back S').drop i) (gg.trans g)
        · exact k3 _ _ G' H' (by rw [← Rho.s_eq]; exact p) ((back S').drop i) (gg.trans g)
        · exact k4 _ _ G' H' (by rw [← Rho.s_eq]; exact p) ((back S').drop i) (gg.trans g)
theorem pd_eqU {w2 : W2} (hu : X.A.units + 64 < cLine) (h : PD2 X c a b ta tb w2) (hK : X.K = c.K := by rfl) : PDE X c (.Compare a [.Eq] [b] pos) (tOp (rEqD c.K) ta tb) (wOp w2 (kEq 8)) := by
 rw [← hK]
 exact pd_cmp (op_eqD hu) (by rw [hK]; exact opd_eqD (by decide)) h (nomark _)
theorem pd_neU {w2 : W2} (hu : X.A.units + 64 < cLine) (h : PD2 X c a b ta tb w2) (hK : X.K = c.K := by rfl) : PDE X c (.Compare a [.NotEq] [b] pos) (tOp (rNeD c.K) ta tb) (wOp w2 (kNe 8)) := by
 rw [← hK]
 exact pd_cmp (op_neD hu) (by rw [hK]; exact opd_neD (by decide)) h (nomark _)
theorem pdt_eqU {w2 : W2} (hu : X.A.units + 64 < cLine) (h : PD2 X c a b ta tb w2) (hK : X.K = c.K := by rfl) : PDT X c (.Compare a [.Eq] [b] pos) (tTest (tOp (rEqD c.K) ta tb)) (wTst (wOp w2 (kEq 8))) := by
 rw [← hK]
 exact pdt_cmp (op_eqD hu) (by rw [hK]; exact opd_eqD (by decide)) h (nomark _)
theorem pdt_neU {w2 : W2} (hu : X.A.units + 64 < cLine) (h : PD2 X c a b ta tb w2) (hK : X.K = c.K := by rfl) : PDT X c (.Compare a [.NotEq] [b] pos) (tTest (tOp (rNeD c.K) ta tb)) (wTst (wOp w2 (kNe 8))) := by
 rw [← hK]
 exact pdt_cmp (op_neD hu) (by rw [hK]; exact opd_neD (by decide)) h (nomark _)
end
end DL
end

section
set_option maxRecDepth 100000
set_option maxHeartbeats 2000000
namespace DL
open PySem PySem.Spec PyProof.Rows L2
/-! ### the pen -/
/-- the context of a body that draws: nothing is raised -/
abbrev cqP (K : PySem.W.Frag) (G H : Hp) (x : Addr) : Cq := ⟨K, G, H, some x, fun _ _ _ => False, fun _ _ _ => False, fun _ _ _ _ _ _ _ x => x.elim⟩
def penKvs (ns : List Int) (at_ left : Int) : List (Key × D) := [(.inr "cells", .lst (ns.map .int)), (.inr "at", .int at_), (.inr "left", .int left)]
def penVs (ac : Addr) (at_ left : Int) : List (Key × V) := [(.inr "cells", .ref ac), (.inr "at", .int at_), (.inr "left", .int left)]
def wPenEnd (Pv : D → Nat → Prop) (d : D) : Rho → Prop := fun ρ => match Rho.g ρ 0 with
  | some (.pn m) => Pv d m
  | _ => False
theorem pn_g {ρ : Rho} {i : Nat} {C : Nat → Prop} (h : match Rho.g ρ i with | some (.pn m) => C m | _ => False) : ∃ m, ρ[i]? = some (some (.pn m)) ∧ C m := by
  cases e : Rho.g ρ i with
  | none => rw [e] at h; exact h.elim
  | some s =>
    rw [e] at h
    cases s with
    | pn m => exact ⟨m, Rho.g_eq ρ i e, h⟩
    | sh d => exact h.elim
    | dk n => exact h.elim
    | ow kvs => exact h.elim
    | me C nm xs => exact h.elim
theorem pen_at {c : Cq} {σ : L2.St} {ρ : Rho} {G H : Hp} {i m : Nat} (S : StOk c σ ρ G H) (e : ρ[i]? = some (some (.pn m))) : ∃ p : Addr, σ[i]? = some (some (.ref p)) ∧ PenAt c.K G H p m ∧ G p = none ∧ (c.E0 p = none ∨ c.mu = some p) := by
  obtain ⟨v, h1, ⟨p, rfl, h2, h3⟩, h4⟩ := S.sl i _ e
  refine ⟨p, h1, h2, h3, ?_⟩
  rcases h4 p rfl rfl with z | z
  · exact .inl z
  · exact .inr z.2
theorem PenAt.monoG {K : PySem.W.Frag} {G G' H : Hp} {p : Addr} {m : Nat} (h : PenAt K G H p m) (g : Same G G') : PenAt K G' H p m := by
  obtain ⟨ac, ns, a, b, h1, h2, h3⟩ := h
  exact ⟨ac, ns, a, b, h1, g _ _ h2, h3⟩
section
variable {P : Program} {w : World} {K : PySem.W.Frag} {mg : Str → Option Value} {base : Heap}
theorem okP {x qual : Str} {st : Stmt} {f : Addr} {fd : FuncData} {N ps : List Str} {k n : Nat} {spec : SpcP} (F : Fun K x qual st f fd) (S : FnScope N ps (defScope st)) (hn : ps.length = n + 1)
    (hbody : ∀ (cdv : Value) (A : Around) (outer : List Env) (s : Shared) (H : Hp) (E : XK) (G : Hp) (x0 : Addr), Room k (A.deeper (envOfC qual (defScope st) s.heap.objs.size f cdv)) →
      ∃ t wb, PDSs (cxOf (L2.CX P w) P w K mg base N qual (defScope st) f cdv A outer s H E) (cqP K G H x0) (defBody st) t wb ∧
        ∀ m ds Pv, ds.length = n → spec m ds Pv → wb (rhoP N m ds) { nx := wPenEnd Pv .non, rt := wPenEnd Pv }) :
    FnOk P w K mg base (L2.CX P w) (k + 1) f fd ps (SpP K n spec) := by
  refine F.okX S (fun vs H Q E h => ?_) (fun cdv A outer s H vs Q E hr h => ?_)
  · obtain ⟨G, p, m, ds, us, Pv, rfl, h1, h2, h3, h4, h5, _⟩ := h
    rw [List.length_cons, h4.1, h5, hn]
  · obtain ⟨G, x0, m, ds, us, Pv, rfl, h1, h2, h3, h4, h5, h6, h7⟩ := h
    obtain ⟨t, wb, hp, hw⟩ := hbody cdv A outer s H E G x0 hr
    have hx : ∃ o, (cqP K G H x0).E0 x0 = some o := by
      obtain ⟨ac, ns, a, b, q, _⟩ := h3
      exact ⟨_, q⟩
    have fin : ∀ {σ' ρ' G' H' v d}, wPenEnd Pv d ρ' → StOk (cqP K G H x0) σ' ρ' G' H' → Is K G' d v → Q v H' := fun {σ' ρ' G' H' v d} p S' i => by
      obtain ⟨m', e, pv⟩ := pn_g (C := fun m => Pv d m) p
      obtain ⟨a, q1, q2, q3, _⟩ := pen_at S' e
      have ea : a = x0 := S'.mo 0 _ e rfl a q1 x0 rfl
      subst ea
      exact h7 v d m' H' pv (fun b o eb ne => S'.eh b o eb (fun z => by cases z; exact ne rfl)) (q2.monoG (ext_subG S'.gg S'.gh S'.nw)) (i.mono (ext_subG S'.gg S'.gh S'.nw))
    refine ⟨t, hp.p, hp.d _ _ G H _ { nx := wPenEnd Pv .non, rt := wPenEnd Pv } (entryM (c := cqP K G H x0) (s0 := .pn m) h1 rfl hx h4 ⟨x0, rfl, h3, h2⟩ rfl rfl) (hw m ds Pv h5 h6) ?_ ?_ ?_ ?_⟩
    · exact fun σ' ρ' G' H' p S' g => fin p S' .non
    · exact fun v d σ' ρ' G' H' p S' g i => fin p S' i
    · exact fun _ _ _ _ p => p.elim
    · exact fun _ _ _ _ p => p.elim
/-- the draw itself: the pen as a dict -/
def wDrawEnd (Pv : D → Nat → Prop) (d : D) : Rho → Prop := fun ρ => match Rho.g ρ 0 with
  | some (.dk kvs) => ∃ (ns : List Int) (at_ left : Int) (m : Nat), kvs = penKvs ns at_ left ∧ ns.length ≤ 63 ∧ 0 ≤ at_ ∧ at_ ≤ (m : Int) ∧ 0 ≤ left ∧ Pv d m
  | _ => False
theorem okDraw {x qual : Str} {st : Stmt} {f : Addr} {fd : FuncData} {N ps : List Str} {k n : Nat} {spec : SpcP} (F : Fun K x qual st f fd) (S : FnScope N ps (defScope st)) (hn : ps.length = n + 1)
    (hbody : ∀ (cdv : Value) (A : Around) (outer : List Env) (s : Shared) (H : Hp) (E : XK) (G : Hp) (x0 : Addr), Room k (A.deeper (envOfC qual (defScope st) s.heap.objs.size f cdv)) →
      ∃ t wb, PDSs (cxOf (L2.CX P w) P w K mg base N qual (defScope st) f cdv A outer s H E) (cqP K G H x0) (defBody st) t wb ∧
        ∀ (m : Nat) ds Pv (ns : List Int) (at_ left : Int), ds.length = n → spec m ds Pv → ns.length ≤ 63 → 0 ≤ at_ → at_ ≤ (m : Int) → 0 ≤ left → wb (some (.dk (penKvs ns at_ left)) :: (ds.map (fun d => some (.sh d)) ++ List.replicate (N.length - (ds.length + 1)) none)) { nx := wDrawEnd Pv .non, rt := wDrawEnd Pv }) :
    FnOk P w K mg base (L2.CX P w) (k + 1) f fd ps (SpP K n spec) := by
  refine F.okX S (fun vs H Q E h => ?_) (fun cdv A outer s H vs Q E hr h => ?_)
  · obtain ⟨G, p, m, ds, us, Pv, rfl, h1, h2, h3, h4, h5, _⟩ := h
    rw [List.length_cons, h4.1, h5, hn]
  · obtain ⟨G, x0, m, ds, us, Pv, rfl, h1, h2, ⟨ac, ns, at_, left, g1, g2, g3, g4, g5, g6⟩, h4, h5, h6, h7⟩ := h
    obtain ⟨t, wb, hp, hw⟩ := hbody cdv A outer s H E G x0 hr
    have al0 : All K G (ns.map D.int) (ns.map V.int) := All.of_ints ns
    have s0 : SlOk K G H (.dk (penKvs ns at_ left)) (.ref x0) := ⟨x0, penVs ac at_ left, rfl, g1, h2, rfl, .cons (.lst g2 al0.1 al0.2) (.cons (.int _) (.cons (.int _) .nil))⟩
    have fin : ∀ {σ' ρ' G' H' v d}, wDrawEnd Pv d ρ' → StOk (cqP K G H x0) σ' ρ' G' H' → Is K G' d v → Q v H' := fun {σ' ρ' G' H' v d} p S' i => by
      obtain ⟨kvs, e, ns', at', left', m', rfl, b1, b2, b3, b4, pv⟩ := dk_g (C := fun kvs => ∃ (ns : List Int) (at_ left : Int) (m : Nat), kvs = penKvs ns at_ left ∧ ns.length ≤ 63 ∧ 0 ≤ at_ ∧ at_ ≤ (m : Int) ∧ 0 ≤ left ∧ Pv d m) p
      obtain ⟨a, vs, q1, q2, q3, q4, q5, _⟩ := dk_at S' e
      have ea : a = x0 := S'.mo 0 _ e rfl a q1 x0 rfl
      subst ea
      have hs := ext_subG S'.gg S'.gh S'.nw
      obtain ⟨v1, us1, e1, i1, r1⟩ := All.uncons (show All K G' (D.lst (ns'.map .int) :: [D.int at', D.int left']) (vs.map (·.2)) from q5)
      obtain ⟨v2, us2, e2, i2, r2⟩ := All.uncons r1
      obtain ⟨v3, us3, e3, i3, r3⟩ := All.uncons r2
      have r3 := r3.unnil
      subst r3; subst e3; subst e2
      cases i2; cases i3
      cases i1 with
      | lst c1 c2 c3 =>
        rename_i l1 vs1
        have ev : vs1 = ns'.map V.int := All.ints ⟨c2, c3⟩
        subst ev
        have evs : vs = penVs l1 at' left' := by
          match vs, q4, e1 with
          | [], q4, _ => cases q4
          | [_], q4, _ => simp [penKvs] at q4
          | [_, _], q4, _ => simp [penKvs] at q4
          | [(k1, u1), (k2, u2), (k3, u3)], q4, e1 =>
            simp only [penKvs, List.map_cons, List.map_nil, List.cons.injEq, and_true] at q4 e1
            obtain ⟨rfl, rfl, rfl⟩ := q4
            obtain ⟨rfl, rfl, rfl⟩ := e1
            rfl
          | _ :: _ :: _ :: _ :: _, q4, _ => simp [penKvs] at q4
        subst evs
        exact h7 v d m' H' pv (fun b o eb ne => S'.eh b o eb (fun z => by cases z; exact ne rfl)) ⟨l1, ns', at', left', q2, hs _ _ c1, b1, b2, b3, b4⟩ (i.mono hs)
    refine ⟨t, hp.p, hp.d _ _ G H _ { nx := wDrawEnd Pv .non, rt := wDrawEnd Pv } (entryM (c := cqP K G H x0) (s0 := .dk (penKvs ns at_ left)) h1 rfl ⟨_, g1⟩ h4 s0 rfl rfl) (hw m ds Pv ns at_ left h5 h6 g3 g4 g5 g6) ?_ ?_ ?_ ?_⟩
    · exact fun σ' ρ' G' H' p S' g => fin p S' .non
    · exact fun v d σ' ρ' G' H' p S' g i => fin p S' i
    · exact fun _ _ _ _ p => p.elim
    · exact fun _ _ _ _ p => p.elim
end
/-! ### a call with the pen -/
section
variable {c : Cq} {X : Cx} {a b e : Expr} {es : List Expr} {ta tb : TE} {ts : TA} {wa wb : WE} {ws : WA} {p pos : Pos} {x y : Str} {k j n : Nat} {spec : SpcP}
/-- slot i held again: what stands at l -/
theorem StOk.hold {σ : L2.St} {ρ : Rho} {G H : Hp} {i : Nat} {l : Addr} {s2 : Sl} (S : StOk c σ (ρ.set i none) G H) (hi : i < ρ.length) (h1 : σ[i]? = some (some (.ref l))) (h2 : SlOk c.K G H s2 (.ref l)) (h3 : c.E0 l = none ∨ (s2.isMu = true ∧ c.mu = some l)) (h4 : NotOwn σ (ρ.set i none) l) (h5 : s2.isMu = true → ∀ p, c.mu = some p → l = p) :
    StOk c σ (ρ.set i (some s2)) G H := by
  have ne : ∀ (j : Nat), i ≠ j → ∀ s, (ρ.set i (some s2))[j]? = some (some s) → (ρ.set i none)[j]? = some (some s) := fun j h s e => by
    rw [List.getElem?_set, if_neg h] at e ⊢
    exact e
  have at_ : ∀ s, (ρ.set i (some s2))[i]? = some (some s) → s = s2 := fun s e => by
    rw [List.getElem?_set, if_pos rfl, if_pos hi] at e
    cases e; rfl
  refine ⟨S.gg, S.gh, S.eh, S.mh, S.nw, by rw [List.length_set]; have := S.len; rw [List.length_set] at this; exact this, fun j s e => ?_, fun j s e m l' hl => ?_, fun j k s s' hjk e1 e2 o1 o2 l' q1 q2 => ?_⟩
  · by_cases h : i = j
    · subst h
      rw [at_ s e]
      exact ⟨_, h1, h2, fun l' _ z => by cases z; exact h3⟩
    · exact S.sl j s (ne j h s e)
  · by_cases h : i = j
    · subst h
      rw [at_ s e] at m
      rw [h1] at hl
      cases hl
      exact h5 m
    · exact S.mo j s (ne j h s e) m l' hl
  · by_cases h : i = j
    · subst h
      rw [h1] at q1
      cases q1
      exact h4 k s' (ne k hjk s' e2) o2 q2
    · by_cases h' : i = k
      · subst h'
        rw [h1] at q2
        cases q2
        exact h4 j s (ne j h s e1) o1 q1
      · exact S.dj j k s s' hjk (ne j h s e1) (ne k h' s' e2) o1 o2 l' q1 q2
/-- an object that nobody knows is changed -/
theorem StOk.poke {σ : L2.St} {ρ : Rho} {G H : Hp} {l : Addr} {o : HO} (S : StOk c σ ρ G H) (hg : G l = none) (hf : c.E0 l = none ∨ c.mu = some l) (hn : NotOwn σ ρ l) : StOk c σ ρ G (upd H l o) where
  gg := S.gg
  gh := fun b u h => by
    rw [upd_ne (ne_of_none h hg)]
    exact S.gh b u h
  eh := fun b u h m => by
    have hb : b ≠ l := fun z => by
      subst z
      rcases hf with hf | hf
      · rw [hf] at h; cases h
      · exact m hf
    rw [upd_ne hb]
    exact S.eh b u h m
  mh := fun b m => by
    by_cases hb : b = l
    · subst hb; exact ⟨_, upd_same⟩
    · rw [upd_ne hb]; exact S.mh b m
  nw := S.nw
  len := S.len
  sl := fun j s h => by
    obtain ⟨v, h1, h2, h3⟩ := S.sl j s h
    refine ⟨v, h1, h2.mono (Same.refl _) fun l' ho hv => ?_, h3⟩
    subst hv
    obtain ⟨l2, u, q1, q2, q3⟩ := Sl.ow_ref h2 ho
    cases q1
    have hne : l' ≠ l := fun z => by
      subst z
      exact hn j s h ho h1
    exact ⟨upd_ne hne, q3⟩
  mo := S.mo
  dj := S.dj
@[simp] def wCallP (i n : Nat) (spec : SpcP) (ws : WA) : WE := fun ρ P => (∃ m0, Rho.g ρ i = some (.pn m0)) ∧ ws ρ fun ds ρ1 => match Rho.g ρ1 i with
  | some (.pn m) => ds.length = n ∧ spec m ds fun d m' => P d (Rho.s ρ1 i (some (.pn m')))
  | _ => False
theorem de_callP {i : Nat} (h : DA c ts ws) : DE c (tCall (SpP c.K n spec) [] c.E (tCons (tVar i) ts)) (wCallP i n spec ws) := fun σ ρ G H Q P S hw k => by
  obtain ⟨⟨m0, e0⟩, hw⟩ := hw
  obtain ⟨p0, q0, _⟩ := pen_at S (Rho.g_eq _ _ e0)
  refine ⟨_, q0, h σ ρ G H _ _ S hw fun vs ds ρ1 G1 H1 p1 S1 g1 i1 => ?_⟩
  obtain ⟨m, e, hn, hs⟩ := pn_g (C := fun m => ds.length = n ∧ spec m ds fun d m' => P d (Rho.s ρ1 i (some (.pn m')))) p1
  obtain ⟨p, q1, q2, q3, q4⟩ := pen_at S1 e
  rw [q0] at q1
  cases q1
  rw [List.append_nil]
  refine ⟨G1, p0, m, ds, vs, _, rfl, S1.gh, q3, q2, i1, hn, hs, fun v d m' H' pd hh hp hi => ?_⟩
  have hi0 : i < ρ1.length := (List.getElem?_eq_some_iff.mp e).1
  have no : NotOwn σ (ρ1.set i none) p0 := fun j s ej o hj => by
    rw [List.getElem?_set] at ej
    by_cases hij : i = j
    · rw [if_pos hij] at ej; split at ej <;> cases ej
    · rw [if_neg hij] at ej
      exact S1.dj i j _ s hij e ej rfl o p0 q0 hj
  have hp0 : ∃ o, H' p0 = some o := by
    obtain ⟨ac, ns, a, b, z, _⟩ := hp
    exact ⟨_, z⟩
  obtain ⟨o', ho'⟩ := hp0
  have hhu : Same (upd H1 p0 o') H' := fun b u eb => by
    by_cases hb : b = p0
    · subst hb; rw [upd_same] at eb; cases eb; exact ho'
    · rw [upd_ne hb] at eb; exact hh b u eb hb
  have hex : ∃ o, H1 p0 = some o := by
    obtain ⟨ac, ns, a, b, z, _⟩ := q2
    exact ⟨_, z⟩
  have ee : extG G1 (upd H1 p0 o') H' = extG G1 H1 H' := by
    funext b
    by_cases hb : b = p0
    · subst hb
      obtain ⟨o, ho⟩ := hex
      rw [ext_old ho, ext_old (upd_same (H := H1) (o := o'))]
    · unfold extG
      rw [upd_ne hb]
  have S2 := ((S1.forget i).poke (o := o') q3 q4 no).ext hhu
  rw [ee] at S2
  have hgp : extG G1 H1 H' p0 = none := by
    obtain ⟨o, ho⟩ := hex
    rw [ext_old ho]; exact q3
  have q4' : c.E0 p0 = none ∨ ((Sl.pn m').isMu = true ∧ c.mu = some p0) := q4.imp id fun z => ⟨rfl, z⟩
  have S3 := S2.hold (s2 := .pn m') hi0 q0 ⟨p0, rfl, hp, hgp⟩ q4' no (fun _ => S1.mo i _ e rfl p0 q0)
  refine k v d _ (extG G1 H1 H') H' pd (by rw [Rho.s_eq]; exact S3) (g1.trans ⟨ext_same S1.gh, fun l u el n => hh l u el (fun z => by subst z; exact n i _ e rfl q0), fun a o ea _ => ext_nw a o ea, fun l el => ?_, fun l nl j s ej o => ?_⟩) hi
  · cases h1 : H1 l with
    | none => rfl
    | some u =>
      by_cases hl : l = p0
      · subst hl; rw [ho'] at el; cases el
      · rw [hh l u h1 hl] at el; cases el
  · rw [Rho.s_eq, List.getElem?_set] at ej
    by_cases hij : i = j
    · subst hij
      exact nl i _ e rfl
    · rw [if_neg hij] at ej
      exact nl j s ej o
variable {yp : Pos}
theorem pd_callP (i : Nat) (C : Cal X.prog X.w X.K X.mg X.base k x (SpP c.K n spec)) (hr : Room j X.A) (hk : k ≤ j) (hg : Gl X x) (tk : Takes X (fun cls d _ H => c.E cls d H)) (h : PDA X c es ts ws)
    (hN : X.N[i]? = some y := by rfl) (hv : Vis X.env.scope y := by first | exact Or.inl rfl | exact Or.inr (Or.inl rfl) | exact Or.inr (Or.inr rfl)) (hyd : (y == ("__debug__" : Str)) = false := by decide) (hycd : (y == ("__classdict__" : Str)) = false := by decide)
    (hdb : (x == ("__debug__" : Str)) = false := by decide) (he : starEach (.Name y yp :: es) X.env = (false, eval (.Name y yp) X.env) :: starEach es X.env := by rfl) (hpl : (backTo pos (starEach es X.env)).any (·.1) = false := by rfl) :
    PDE X c (.Call (.Name x p) (.Name y yp :: es) [] pos) (tCall (SpP c.K n spec) [] c.E (tCons (tVar i) ts)) (wCallP i n spec ws) := by
  obtain ⟨f, fd, ps, F, hm, hkp, hb⟩ := C.ex
  exact ⟨pe_call F (hr.mono hk) hg hm hkp hb .nil (passes_call tk fun _ _ _ _ z => z) (pa_cons (pv i hN hv hyd hycd) h.p he) hdb he hpl, de_callP h.d⟩
/-! ### a new pen -/
/-- of a def that makes a pen of a script -/
def SpNew (K : PySem.W.Frag) : Sp := fun vs H Q _ => ∃ (G : Hp) (ns : List Int), Same G H ∧ All K G [.scr ns] vs ∧
  ∀ p H', Same H H' → H p = none → PenAt K (rm (extG G H H') p) H' p 0 → Q (.ref p) H'
@[simp] def wPenNew (w : WE) : WX := fun ρ P => w ρ fun d ρ1 => (∃ ns : List Int, d = .scr ns) ∧ P (.pn 0) ρ1
theorem pd_penNew (C : Cal X.prog X.w X.K X.mg X.base k x (SpNew c.K)) (hr : Room j X.A) (hk : k ≤ j) (hg : Gl X x) (tk : Takes X (fun cls d _ H => c.E cls d H)) (h : PDE X c a ta wa) (hm : c.mu = none := by rfl)
    (hdb : (x == ("__debug__" : Str)) = false := by decide) (he : starEach [a] X.env = (false, eval a X.env) :: starEach [] X.env := by rfl) (hpl : (backTo pos (starEach [] X.env)).any (·.1) = false := by rfl) :
    PDX X c (.Call (.Name x p) [a] [] pos) (tCall (SpNew c.K) [] c.E (tCons ta tNil)) (wPenNew wa) := by
  obtain ⟨f, fd, ps, F, hmg, hkp, hb⟩ := C.ex
  refine ⟨pe_call F (hr.mono hk) hg hmg hkp hb .nil (passes_call tk fun _ _ _ _ z => z) (pa_cons h.p pa_nil he) hdb he hpl, fun σ ρ G H Q P S hw k => h.d σ ρ G H _ _ S hw fun v d ρ1 G1 H1 p1 S1 g1 i1 => ?_⟩
  obtain ⟨⟨ns, rfl⟩, p1⟩ := p1
  refine ⟨G1, ns, S1.gh, by exact .cons i1 .nil, fun p H' hh hp pen => ?_⟩
  have g0 : G1 p = none := S1.free hp
  have e1 : Same G1 (rm (extG G1 H1 H') p) := fun b u eb => by
    rw [rm_ne (ne_of_none eb g0)]
    exact ext_same S1.gh b u eb
  have e2 : Same (rm (extG G1 H1 H') p) H' := fun b u eb => ext_sub S1.gh (fun a u e _ => hh a u e) b u (rm_some eb).2
  have nw : ∀ a o, rm (extG G1 H1 H') p a = some o → G1 a = some o ∨ H1 a = none := fun a o ea => ext_nw a o (rm_some ea).2
  exact k _ _ ρ1 _ H' p1 (S1.grow e1 hh e2 nw) (g1.trans (.grow e1 hh nw)) (.pn pen rm_at (S1.efree hp) (fresh_notOwn S1 hp) (g1.d p hp) hm)
end
section
variable {P : Program} {w : World} {K : PySem.W.Frag} {mg : Str → Option Value} {base : Heap}
/-- return {'cells': list(script[:63]), 'at': 0, 'left': 0} -/
theorem okPenNew {x qual : Str} {st : Stmt} {f : Addr} {fd : FuncData} {N ps : List Str} {k : Nat} (F : Fun K x qual st f fd) (S : FnScope N ps (defScope st)) (hn : ps.length = 1)
    (hbody : ∀ (cdv : Value) (A : Around) (outer : List Env) (s : Shared) (H : Hp) (E : XK) (G : Hp), Room k (A.deeper (envOfC qual (defScope st) s.heap.objs.size f cdv)) →
      ∃ e tl wl, PDX (cxOf (L2.CX P w) P w K mg base N qual (defScope st) f cdv A outer s H E) (cqS K G H) e tl wl ∧ (PE (cxOf (L2.CX P w) P w K mg base N qual (defScope st) f cdv A outer s H E) e tl → PSs (cxOf (L2.CX P w) P w K mg base N qual (defScope st) f cdv A outer s H E) (defBody st) (tRet (tDisp [(tC (.str "cells"), tl), (tC (.str "at"), tC (.int 0)), (tC (.str "left"), tC (.int 0))]))) ∧
        ∀ ns : List Int, wl (rho0 N [.scr ns]) fun s _ => ∃ ns' : List Int, s = .ow (ns'.map .int) ∧ ns'.length ≤ 63) :
    FnOk P w K mg base (L2.CX P w) (k + 1) f fd ps (SpNew K) := by
  refine F.okX S (fun vs H Q E h => ?_) (fun cdv A outer s H vs Q E hr h => ?_)
  · obtain ⟨G, ns, h1, h2, _⟩ := h
    rw [h2.1, hn]; rfl
  · obtain ⟨G, ns, h1, h2, h3⟩ := h
    obtain ⟨e, tl, wl, hpd, hp, hw⟩ := hbody cdv A outer s H E G hr
    have hd := hpd.d
    have hp := hp hpd.p
    refine ⟨_, hp, fun p hpn => ?_⟩
    have S0 := (entry (c := cqS K G H) (N := N) h1 rfl h2).newH (o := .dK []) hpn
    refine hd _ _ G _ _ _ S0 (hw ns) fun v sl ρ1 G1 H1 p1 S1 g1 i1 => ?_
    obtain ⟨ns', rfl, hl⟩ := p1
    cases i1 with
    | ow q1 q2 q3 q4 q5 q6 =>
      rename_i l vs'
      have ev := All.ints q6
      subst ev
      have hlp : l ≠ p := fun z => by
        subst z
        rw [upd_same] at q5; cases q5
      have hp1 : H1 p = some (.dK []) := g1.h p _ upd_same (fresh_notOwn (entry (c := cqS K G H) (N := N) h1 rfl h2) hpn)
      refine ⟨hp1, [(.inr "cells", .ref l), (.inr "at", .int 0), (.inr "left", .int 0)], rfl, (by show 3 ≤ 15; decide), ?_⟩
      have em : mergeK [] [((.inr "cells" : Key), V.ref l), (.inr "at", .int 0), (.inr "left", .int 0)] = penVs l 0 0 := by
        have n1 : ¬ (Str.ofString "cells" = Str.ofString "at") := by decide
        have n2 : ¬ (Str.ofString "cells" = Str.ofString "left") := by decide
        have n3 : ¬ (Str.ofString "at" = Str.ofString "left") := by decide
        simp [mergeK, putK, penVs, n1, n2, n3]
      rw [em]
      have keep : ∀ b u, H b = some u → H1 b = some u := fun b u eb => S1.eh b u eb (fun z => by cases z)
      refine h3 p _ (fun b u eb => ?_) hpn ?_
      · have hb : b ≠ p := fun z => by subst z; rw [hpn] at eb; cases eb
        rw [upd_ne hb]
        exact keep b u eb
      · refine ⟨l, ns', 0, 0, upd_same, ?_, hl, Int.le_refl _, Int.le_refl _, Int.le_refl _⟩
        have hHl : H l = none := q3
        rw [rm_ne hlp, ext_new hHl, upd_ne hlp]
        exact q1
end
end DL
end

section
set_option maxRecDepth 100000
set_option maxHeartbeats 2000000
namespace DL
open PySem PySem.Spec PyProof.Rows L2 HT
/-! ### a tuple turned round -/
section
variable {prog : Program} {w : World} {A : Around} {E : Value → Shared → Prop} {s : Shared}
theorem adjust_rev (n : Nat) : Builtin.Slice.sliceAdjust none none (-1) (n : Int) = ((n : Int) - 1, -1) := by
  unfold Builtin.Slice.sliceAdjust
  simp
theorem places_rev (n : Nat) : Builtin.Slice.slicePlaces ((n : Int) - 1) (-1) (-1) = n := by
  unfold Builtin.Slice.slicePlaces
  have h1 : ¬ ((-1 : Int) > 0) := by omega
  have h2 : (((n : Int) - 1 - -1 - 1) / - -1) = (n : Int) - 1 := by
    rw [show (- -1 : Int) = 1 by omega, Int.ediv_one]
    omega
  simp only [h1, if_false]
  first | omega | (split <;> first | omega | (rw [h2]; omega))
theorem sliceApplied_rev {sl : Addr} {vs : Value} {n : Nat} {Q : Int × Int × Nat → Shared → Prop} (hs : s.heap.IsSliceOf sl .none .none vs) (ps : IsPart vs (some (-1)))
    (h : Q ((n : Int) - 1, -1, n) s) : wpAny (model prog w) A (Builtin.Slice.sliceApplied (.ref sl) (pure (n : Int))) Q E s := by
  obtain ⟨os, hos, hcs, hds⟩ := id hs
  unfold Builtin.Slice.sliceApplied Builtin.Slice.sliceFields
  refine wpAny_bind (wpAny_bind (wpAny_field hos hds (x := .none) rfl (wpAny_bind (wpAny_field hos hds (x := .none) rfl (wpAny_bind (wpAny_field hos hds (x := vs) rfl (wpAny_pure ?_)))))))
  refine wpAny_bind (slicePart_ ps ?_)
  show wpAny _ _ (if ((-1 : Int) == 0) = true then _ else _) _ _ s
  rw [if_neg (by decide)]
  refine wpAny_bind (slicePart_ .none (wpAny_bind (slicePart_ .none (wpAny_bind (wpAny_pure ?_)))))
  show wpAny _ _ (match Builtin.Slice.sliceAdjust none none (-1) (n : Int) with | (lo, hi) => pure (lo, (-1 : Int), Builtin.Slice.slicePlaces lo hi (-1))) _ _ s
  rw [adjust_rev n]
  show wpAny _ _ (pure ((n : Int) - 1, (-1 : Int), Builtin.Slice.slicePlaces ((n : Int) - 1) (-1) (-1))) _ _ s
  rw [places_rev]
  exact wpAny_pure h
theorem pick_rev (xs : Array Value) : ((List.range xs.size).filterMap fun (m : Nat) => xs[(((xs.size : Int) - 1) + (m : Int) * (-1)).toNat]?).toArray = xs.toList.reverse.toArray := by
  congr 1
  have e : ∀ m ∈ List.range xs.size, xs[(((xs.size : Int) - 1) + (m : Int) * (-1)).toNat]? = some (xs.toList.reverse[m]?.getD .none) := fun m hm => by
    have hm : m < xs.size := List.mem_range.mp hm
    have : (((xs.size : Int) - 1) + (m : Int) * (-1)).toNat = xs.size - 1 - m := by omega
    rw [this, List.getElem?_reverse (by simpa using hm), Array.length_toList, Array.getElem?_toList, Array.getElem?_eq_getElem (by omega)]
    rfl
  have fc : ∀ l : List Nat, (∀ m ∈ l, xs[(((xs.size : Int) - 1) + (m : Int) * (-1)).toNat]? = some (xs.toList.reverse[m]?.getD .none)) → (l.filterMap fun (m : Nat) => xs[(((xs.size : Int) - 1) + (m : Int) * (-1)).toNat]?) = l.map fun m => xs.toList.reverse[m]?.getD Value.none := fun l => by
    induction l with
    | nil => intro _; rfl
    | cons a r ih =>
      intro h
      rw [List.filterMap_cons, h a List.mem_cons_self, List.map_cons, ih fun m hm => h m (List.mem_cons_of_mem _ hm)]
  rw [fc _ e]
  refine List.ext_getElem? fun i => ?_
  rw [List.getElem?_map]
  by_cases hi : i < xs.size
  · have hl : i < xs.toList.reverse.length := by simpa using hi
    rw [List.getElem?_range hi, Option.map_some, List.getElem?_eq_getElem hl]
    rfl
  · rw [List.getElem?_eq_none (by simpa using hi), List.getElem?_eq_none (by simpa using hi)]
    rfl
theorem getItem_tuple_rev {t sl : Addr} {items : Array Value} {vs : Value} {Q : Value → Shared → Prop} (ht : IsTup s.heap t items) (hs : s.heap.IsSliceOf sl .none .none vs) (ps : IsPart vs (some (-1)))
    (h : Q (.ref s.heap.objs.size) { s with heap := s.heap.push { cls := .type "tuple", data := .seq items.toList.reverse.toArray } })
    (hsz : items.size ≤ sizeLine) : wpAny (model prog w) A (getItem (.ref t) (.ref sl)) Q E s := by
  have htake : sizeOk (.seq items.toList.reverse.toArray) := by
    show items.toList.reverse.toArray.size ≤ sizeLine
    rw [List.size_toArray, List.length_reverse, Array.length_toList]
    exact hsz
  obtain ⟨os, hos, hcs, hds⟩ := id hs
  have hTs : s.TypeIs (.ref sl) "slice" := ⟨os, hos, hcs⟩
  unfold getItem
  try with_reducible refine wpAny_holding ?_
  first | refine wpAny_bind (wpAny_pure ?_) | skip
  refine wpAny_bind (wpAny_sequenceKey ht.typeIs (by decide) ?_)
  refine wpAny_bind (wpAny_callSpecial?_slot (name := Str.ofString "__getitem__") ht.typeIs PyProof.Rows.slot_tuple_getitem
    (wpAny_call_entry PyProof.Rows.slot_tuple_getitem ht.typeIs entry_tuple_getitem ?_ (args_tuple_getitem _ _)))
  show wpAny _ _ (Builtin.Tuple.tupleItemsOf (.ref t) >>= _) _ _ s
  refine wpAny_bind (tupleItemsOf_ ht ?_)
  refine wpAny_bind (wpAny_typeOf hTs ?_)
  rw [if_pos (by decide)]
  refine wpAny_bind (sliceApplied_rev hs ps ?_)
  have hno : ¬ ((((items.size : Int) - 1) == 0 && (-1 : Int) == 1 && items.size == items.size) = true) := by
    intro q
    rw [Bool.and_eq_true, Bool.and_eq_true] at q
    exact absurd q.1.2 (by decide)
  show wpAny _ _ (if (((items.size : Int) - 1) == 0 && (-1 : Int) == 1 && items.size == items.size) = true then _ else _) _ _ s
  rw [if_neg hno, pick_rev]
  exact wpAny_bind (m := Builtin.Tuple.tupleExact _) (wpAny_newObj_type (wpAny_pure ⟨_, rfl, wpAny_pure h⟩) htake)
end
section
variable {X : Cx} {c : Cq} {e : Expr} {te : TE} {we : WE} {pos : Pos}
def tRevT (K : PySem.W.Frag) (te : TE) : TE := fun σ H Q => te σ H fun x H1 => ∃ a xs, x = .ref a ∧ SqT K H1 a xs ∧ xs.length ≤ sizeLine ∧ ∀ p, H1 p = none → Q (.ref p) (upd H1 p (.tup xs.reverse))
theorem pe_revT {k : Nat} {p1 p2 p3 : Pos} (he : PE X e te) : PE X (.Subscript e (.Slice none none (some (.UnaryOp .USub (.Constant (.int 1) k p1) p2)) p3) pos) (tRevT X.K te) := by
  refine ⟨fun pins s σ H Q I h => ?_⟩
  refine Subscript_ (thn (he.run pins s σ H _ I h) fun v s1 ⟨x, H1, I1, r1, q1⟩ => ?_)
  obtain ⟨a, xs, ex, hx, hz, q⟩ := q1
  subst ex
  cases r1
  have hst : PO X (some (.UnaryOp .USub (.Constant (.int 1) k p1) p2)) (tPart (tUn (rU fun i => .int (-i)) (tC (.int 1)))) := po_some (pe_un un_neg pe_int)
  refine wpAny_Slice (thn (po_none.run pins s1 σ H1 (fun o H2 => o = none ∧ H2 = H1) I1 ⟨rfl, rfl⟩) fun vl s2 ⟨l, H2, I2, pl, el, e2⟩ => ?_)
  subst el e2
  refine thn (po_none.run pins s2 σ H2 (fun o H3 => o = none ∧ H3 = H2) I2 ⟨rfl, rfl⟩) fun vu s3 ⟨u, H3, I3, pu, eu, e3⟩ => ?_
  subst eu e3
  refine thn (hst.run pins s3 σ H3 (fun o H4 => o = some (-1) ∧ H4 = H3) I3 ⟨1, rfl, -1, rfl, rfl, rfl⟩) fun vs s4 ⟨o, H4, I4, ps, eo, e4⟩ => ?_
  subst eo e4
  cases pl
  cases pu
  have I5 : Inv X pins σ H4 { s4 with heap := s4.heap.push { cls := .type "slice", data := .fields #[.none, .none, vs] } } := I4.kept (t' := s4.toks) fun b ob q => Heap.get?_push_of_some _ q
  obtain ⟨its, r, ht, _⟩ := I5.tuple hx
  have hlen := r.length
  show wpAny (model X.prog X.w) X.A (subscriptTail e (.Slice none none (some (.UnaryOp .USub (.Constant (.int 1) k p1) p2)) p3) (.ref a) (.ref s4.heap.objs.size)) (EP X pins σ Q) X.xe { s4 with heap := s4.heap.push { cls := .type "slice", data := .fields #[.none, .none, vs] } }
  refine tail_any (ops := [.ref a, .ref s4.heap.objs.size]) ht.typeIs (slot_tuple_getitem.lookup) ?_ (by with_unfolding_all rfl)
  refine getItem_tuple_rev ht (Heap.IsSliceOf.new _ .none .none vs) ps ?_ (by rw [List.size_toArray, ← hlen]; exact hz)
  refine ⟨.ref _, _, I5.laid (t' := s4.toks) (o := .tup xs.reverse) (fun b ob q => Heap.get?_push_of_some _ q) (Nat.le_refl _) ?_, rfl, q _ (I5.hok.fresh (Nat.le_refl _))⟩
  exact ⟨by rw [List.length_reverse]; exact hz, _, r.reverse, IsTup.new _ _⟩
@[simp] def wRevT (w : WE) : WE := fun ρ P => w ρ fun x ρ1 => match x with
  | .tup xs => xs.length ≤ 1000000 ∧ P (.tup xs.reverse) ρ1
  | _ => False
theorem pd_revT {k : Nat} {p1 p2 p3 : Pos} (h : PDE X c e te we) (hK : X.K = c.K := by rfl) : PDE X c (.Subscript e (.Slice none none (some (.UnaryOp .USub (.Constant (.int 1) k p1) p2)) p3) pos) (tRevT c.K te) (wRevT we) := by
 rw [← hK]
 exact ⟨pe_revT h.p, fun σ ρ G H Q P S hw q => h.d σ ρ G H _ _ S hw fun x dx ρ1 G1 H1 p1 S1 g1 i1 => by
  cases dx <;> first | exact p1.elim | skip
  cases i1 with
  | tup h1 h2 h3 =>
    have al : All c.K G1 _ _ := All.reverse ⟨h2, h3⟩
    rw [hK]
    exact ⟨_, _, rfl, seqT_mono S1.gh h1, by rw [h2]; exact Nat.le_trans p1.1 (by decide), fun m hm => q _ _ ρ1 _ _ p1.2 (S1.new hm) (g1.trans (.new (S1.free hm) hm)) (.tup (.of upd_same) al.1 (al.mono (same_new (S1.free hm))).2)⟩⟩
end
end DL
end

section
set_option maxRecDepth 100000
set_option maxHeartbeats 1000000
/-! What simp may open of the readings over data. -/
namespace DL
open PySem PySem.Spec L2
theorem deq_int (i j : Int) : deq (.int i) (.int j) = decide (i = j) := by
  unfold deq toPy
  show (i == j) = _
  exact Bool.eq_iff_iff.mpr (by simp)
@[simp] theorem kEq_int (i j : Int) (P : D → Prop) : kEq 8 (.int i) (.int j) P ↔ P (.bl (decide (i = j))) := by
  unfold kEq
  rw [deq_int]
  simp [plainD]
@[simp] theorem kNe_int (i j : Int) (P : D → Prop) : kNe 8 (.int i) (.int j) P ↔ P (.bl (!decide (i = j))) := by
  unfold kNe
  rw [deq_int]
  simp [plainD]
theorem ixN_ok {n : Nat} {i : Int} (h0 : 0 ≤ i) (h : i < n) : ixN n i = some i.toNat := by
  unfold ixN
  rw [if_pos h0, if_pos h]
theorem atI_ok {α : Type} {xs : List α} {i : Int} {x : α} (h0 : 0 ≤ i) (h : xs[i.toNat]? = some x) : atI xs i = some x := by
  unfold atI
  have hl : i.toNat < xs.length := (List.getElem?_eq_some_iff.mp h).1
  rw [ixN_ok h0 (by omega)]
  exact h
theorem atI_last {α : Type} {xs : List α} {x : α} : atI (xs ++ [x]) (-1) = some x := by
  unfold atI ixN
  rw [if_neg (by omega), if_pos (by simp; omega)]
  have e : ((-1 : Int) + ((xs ++ [x]).length : Nat)).toNat = xs.length := by
    rw [List.length_append, List.length_singleton]; omega
  rw [Option.bind_some, e]
  simp
theorem kIx_lst {xs : List D} {i : Int} {d : D} {P : D → Prop} (h : atI xs i = some d) (p : P d) : kIx (.lst xs) (.int i) P := by
  show match atI xs i with
    | some d => P d
    | none => False
  rw [h]; exact p
theorem kIx_tup {xs : List D} {i : Int} {d : D} {P : D → Prop} (h : atI xs i = some d) (p : P d) : kIx (.tup xs) (.int i) P := by
  show match atI xs i with
    | some d => P d
    | none => False
  rw [h]; exact p
@[simp] theorem kIx4_0 (a b c d : D) (P : D → Prop) : kIx (.tup [a, b, c, d]) (.int 0) P ↔ P a := Iff.rfl
@[simp] theorem kIx4_1 (a b c d : D) (P : D → Prop) : kIx (.tup [a, b, c, d]) (.int 1) P ↔ P b := Iff.rfl
@[simp] theorem kIx4_2 (a b c d : D) (P : D → Prop) : kIx (.tup [a, b, c, d]) (.int 2) P ↔ P c := Iff.rfl
@[simp] theorem kIx4_3 (a b c d : D) (P : D → Prop) : kIx (.tup [a, b, c, d]) (.int 3) P ↔ P d := Iff.rfl
@[simp] theorem cut4 (a b c d : D) : cut [a, b, c, d] none (some 3) = [a, b, c] := rfl
end DL
end

section
set_option maxRecDepth 100000
set_option maxHeartbeats 1000000
namespace DL
open PySem PySem.Spec L2
/-! ### the addresses and what the defs of runs keep -/
structure Adr where
  Runs : Addr
  Line : Addr
  BadSize : Addr
  BadPlace : Addr
  BadRow : Addr
def Adr.okLine (_ : Adr) : Addr → Option Bool := fun _ => none
def Adr.okRuns (T : Adr) : Addr → Option Bool := fun a => if a = T.Runs then some true else none
abbrev nmRuns : List Str := ["rows", "size"]
structure Row where
  s : Int
  l : Int
  g : Int
  w : Int
  deriving DecidableEq
def Row.d (r : Row) : D := .tup [.int r.s, .int r.l, .int r.g, .int r.w]
def rowsD (rs : List Row) : List D := rs.map Row.d
def runsD (T : Adr) (rs : List Row) (n : Int) : D := .ins T.Runs nmRuns [.tup (rowsD rs), .int n]
def sgn (i : Int) : Int := if 0 < i then 1 else if i < 0 then -1 else 0
def Row.ok (r : Row) : Prop := r.w = 1 ∨ r.w = -1
def joined (a b : Row) : Option Row :=
  if b.g = a.g + (if a.l = 1 then (if b.g = a.g + 1 then 1 else -1) else a.w) * a.l ∧ (b.w = (if a.l = 1 then (if b.g = a.g + 1 then 1 else -1) else a.w) ∨ b.l = 1) then some ⟨a.s, a.l + b.l, a.g, if a.l = 1 then (if b.g = a.g + 1 then 1 else -1) else a.w⟩ else none
def Row.fix (r : Row) : Row := ⟨r.s, r.l, r.g, if r.l = 1 then 1 else r.w⟩
def pushR (acc : List Row) (r : Row) : List Row :=
  if r.l = 0 then acc else match acc.getLast? with
    | none => acc ++ [r.fix]
    | some a => match joined a r with
      | none => acc ++ [r.fix]
      | some m => acc.dropLast ++ [m]
def inForm (rs : List Row) : List Row := rs.foldl pushR []
def piece (r o : Row) : Option Row :=
  let low := if 0 < r.w then r.g else r.g - r.l + 1
  let b := if low < o.s then o.s else low
  let e := if o.s + o.l < low + r.l then o.s + o.l else low + r.l
  if b < e then some (if 0 < r.w then ⟨r.s + (b - r.g), e - b, o.g + o.w * (b - o.s), o.w⟩ else ⟨r.s + (r.g - e + 1), e - b, o.g + o.w * (e - 1 - o.s), -o.w⟩) else none
def pieces (r : Row) (os : List Row) : List Row := (if 0 < r.w then os else os.reverse).filterMap (piece r)
def insR (acc : List Row) (r : Row) : List Row := acc.take (acc.filter fun o => decide (o.s < r.s)).length ++ [r] ++ acc.drop (acc.filter fun o => decide (o.s < r.s)).length
def byStart (rs : List Row) : List Row := rs.foldl insR []
def mulR (a b : List Row) : List Row := inForm (b.flatMap fun r => pieces r a)
def Row.inv (r : Row) : Row := if 0 < r.w then ⟨r.g, r.l, r.s, 1⟩ else ⟨r.g - r.l + 1, r.l, r.s + r.l - 1, -1⟩
def invR (a : List Row) : List Row := inForm (byStart (a.map Row.inv))
def optR : Option Row → D
  | none => .non
  | some r => r.d
def okL (rs : List Row) : Prop := ∀ r ∈ rs, r.ok
def XP0 : XPr := fun _ _ _ => False
def S_is_integer (_ : Adr) : Spc := fun ds P _ => ∃ d, ds = [d] ∧ (tyD d).isSome = true ∧ P (.bl (match d with | .int _ => true | _ => false))
def S_parts_of (_ : Adr) : Spc := fun ds P _ => ∃ i : Int, ds = [.int i] ∧ P (.tup [.int 0, .int i])
def S_sign_of (_ : Adr) : Spc := fun ds P _ => ∃ i : Int, ds = [.int i] ∧ P (.int (sgn i))
def S_is_less (_ : Adr) : Spc := fun ds P _ => ∃ i j : Int, ds = [.int i, .int j] ∧ P (.bl (decide (i < j)))
def S_is_same (_ : Adr) : Spc := fun ds P _ => ∃ i j : Int, ds = [.int i, .int j] ∧ P (.bl (decide (i = j)))
def S_greater (_ : Adr) : Spc := fun ds P _ => ∃ i j : Int, ds = [.int i, .int j] ∧ P (.int (if i < j then j else i))
def S_lesser (_ : Adr) : Spc := fun ds P _ => ∃ i j : Int, ds = [.int i, .int j] ∧ P (.int (if j < i then j else i))
def S_joined_row (_ : Adr) : Spc := fun ds P _ => ∃ a b : Row, ds = [a.d, b.d] ∧ a.ok ∧ P (optR (joined a b))
def S_in_form (_ : Adr) : Spc := fun ds P _ => ∃ rs : List Row, ds = [.lst (rowsD rs)] ∧ okL rs ∧ rs.length ≤ 1000000 ∧ P (.lst (rowsD (inForm rs)))
def S_pieces (_ : Adr) : Spc := fun ds P _ => ∃ (r : Row) (os : List Row), ds = [r.d, .tup (rowsD os)] ∧ r.ok ∧ okL os ∧ os.length ≤ 1000000 ∧ P (.lst (rowsD (pieces r os)))
def S_by_start (_ : Adr) : Spc := fun ds P _ => ∃ rs : List Row, ds = [.lst (rowsD rs)] ∧ rs.length ≤ 1000000 ∧ P (.lst (rowsD (byStart rs)))
def S_Runs_init (_ : Adr) : SpcI := fun ds P _ => ∃ (rs : List Row) (z : Row), ds = [.lst (rowsD rs)] ∧ okL rs ∧ rs.length ≤ 1000000 ∧ (inForm rs).getLast? = some z ∧ P nmRuns [.tup (rowsD (inForm rs)), .int (z.s + z.l)]
def S_Runs_mul (T : Adr) : Spc := fun ds P XP => ∃ (a b : List Row) (n m : Int), ds = [runsD T a n, runsD T b m] ∧ okL a ∧ okL b ∧ a.length ≤ 1000 ∧ b.length ≤ 1000 ∧ (m ≠ n → XP T.BadSize ["size"] [.int m]) ∧
  (m = n → ∃ z, (mulR a b).getLast? = some z ∧ P (runsD T (mulR a b) (z.s + z.l)))
def S_Runs_invert (T : Adr) : Spc := fun ds P _ => ∃ (a : List Row) (n : Int) (z : Row), ds = [runsD T a n] ∧ okL a ∧ a.length ≤ 1000000 ∧ (invR a).getLast? = some z ∧ P (runsD T (invR a) (z.s + z.l))
/-- is_integer value -/
def w_is_integer (T : Adr) (XP : XPr) : WS := (wRet (wAndV (wOne (wVar 0) (kIsT "int")) (wNotV (wOne (wVar 0) (kIsT "bool")))))
/-- parts_of number -/
def w_parts_of (T : Adr) (XP : XPr) : WS := (wSeq (wIfS (wTst (wOne (wVar 0) (kIsC T.Line T.okLine))) wNever wNext) (wRet (wTup (waCons (wC (.int 0)) (waCons (wVar 0) waNil)))))
/-- sign_of number way slope value -/
def w_sign_of (T : Adr) (XP : XPr) : WS := (wSeq (wAsg (wCall 1 (S_parts_of T) XP (waCons (wVar 0) waNil)) (wgTup 2 (wgsCons (wgName 2) (wgsCons (wgName 3) wgsNil)))) (wSeq (wIfS (wTst (wOp (w2ee (wVar 2) (wC (.int 0))) (kEq 8))) (wRet (wOp (w2ee (wOne (wOp (w2ee (wVar 3) (wC (.int 0))) kGt) kInt) (wOne (wOp (w2ee (wVar 3) (wC (.int 0))) kLt) kInt)) kSub)) wNext) (wSeq wNever (wSeq wNever wNever))))
/-- is_less one other -/
def w_is_less (T : Adr) (XP : XPr) : WS := (wRet (wOp (w2ee (wCall 1 (S_sign_of T) XP (waCons (wOp (w2ee (wVar 0) (wVar 1)) kSub) waNil)) (wC (.int 0))) kLt))
/-- is_same one other -/
def w_is_same (T : Adr) (XP : XPr) : WS := (wRet (wOp (w2ee (wCall 1 (S_sign_of T) XP (waCons (wOp (w2ee (wVar 0) (wVar 1)) kSub) waNil)) (wC (.int 0))) (kEq 8)))
/-- greater one other -/
def w_greater (T : Adr) (XP : XPr) : WS := (wRet (wIfE (wTst (wCall 2 (S_is_less T) XP (waCons (wVar 0) (waCons (wVar 1) waNil)))) (wVar 1) (wVar 0)))
/-- lesser one other -/
def w_lesser (T : Adr) (XP : XPr) : WS := (wRet (wIfE (wTst (wCall 2 (S_is_less T) XP (waCons (wVar 1) (waCons (wVar 0) waNil)))) (wVar 1) (wVar 0)))
/-- joined_row row more start length goal way -/
def w_joined_row (T : Adr) (XP : XPr) : WS := (wSeq (wAsg (wVar 0) (wgTup 4 (wgsCons (wgName 2) (wgsCons (wgName 3) (wgsCons (wgName 4) (wgsCons (wgName 5) wgsNil)))))) (wSeq (wIfS (wTst (wCall 2 (S_is_same T) XP (waCons (wVar 3) (waCons (wC (.int 1)) waNil)))) (wSet 5 (wSh (wIfE (wTst (wCall 2 (S_is_same T) XP (waCons (wOp (w2ee (wVar 1) (wC (.int 2))) kIx) (waCons (wOp (w2ee (wVar 4) (wC (.int 1))) kAdd) waNil)))) (wC (.int 1)) (wNeg (wC (.int 1)))))) wNext) (wSeq (wIfS (wOrT (wNotT (wTst (wCall 2 (S_is_same T) XP (waCons (wOp (w2ee (wVar 1) (wC (.int 2))) kIx) (waCons (wOp (w2ee (wVar 4) (wOp (w2ee (wVar 5) (wVar 3)) kMul)) kAdd) waNil))))) (wNotT (wOrT (wTst (wOp (w2ee (wOp (w2ee (wVar 1) (wC (.int 3))) kIx) (wVar 5)) (kEq 8))) (wTst (wCall 2 (S_is_same T) XP (waCons (wOp (w2ee (wVar 1) (wC (.int 1))) kIx) (waCons (wC (.int 1)) waNil))))))) (wRet (wC .non)) wNext) (wRet (wTup (waCons (wVar 2) (waCons (wOp (w2ee (wVar 3) (wOp (w2ee (wVar 1) (wC (.int 1))) kIx)) kAdd) (waCons (wVar 4) (waCons (wVar 5) waNil)))))))))
/-- in_form rows found row more -/
def w_in_form_1 (T : Adr) (XP : XPr) : WS := (wSeq (wIfS (wTst (wCall 2 (S_is_same T) XP (waCons (wOp (w2ee (wVar 2) (wC (.int 1))) kIx) (waCons (wC (.int 0)) waNil)))) wCont wNext) (wSeq (wSet 3 (wSh (wIfE (wTst (wOp (w2oe 1 (wKn (wLstO waNil))) (kNe 8))) (wCall 2 (S_joined_row T) XP (waCons (wOp (w2oe 1 (wNeg (wC (.int 1)))) kIx) (waCons (wVar 2) waNil))) (wC .non)))) (wIfS (wTst (wIsN (wVar 3))) (wApp 1 (wTup (waStar (wSl (wVar 2) woNo (woSo (wC (.int 3)))) (waCons (wIfE (wTst (wCall 2 (S_is_same T) XP (waCons (wOp (w2ee (wVar 2) (wC (.int 1))) kIx) (waCons (wC (.int 1)) waNil)))) (wC (.int 1)) (wOp (w2ee (wVar 2) (wC (.int 3))) kIx)) waNil)))) (wSetIx 1 (wVar 3) (wNeg (wC (.int 1)))))))
def w_in_form (T : Adr) (XP : XPr) : WS := (wSeq (wSet 1 (wLstO waNil)) (wSeq (wFor (wiL (wVar 0)) (wgName 2) (w_in_form_1 T XP)) (wRet (wFrz 1))))
/-- pieces row others found start length goal way first many there turn low begin end -/
def w_pieces_1 (T : Adr) (XP : XPr) : WS := (wSeq (wSet 11 (wSh (wIfE (wTst (wOp (w2ee (wVar 6) (wC (.int 0))) kGt)) (wVar 5) (wOp (w2ee (wOp (w2ee (wVar 5) (wVar 4)) kSub) (wC (.int 1))) kAdd)))) (wSeq (wPar 12 13 (wSh (wCall 2 (S_greater T) XP (waCons (wVar 11) (waCons (wVar 7) waNil)))) (wSh (wCall 2 (S_lesser T) XP (waCons (wOp (w2ee (wVar 11) (wVar 4)) kAdd) (waCons (wOp (w2ee (wVar 7) (wVar 8)) kAdd) waNil))))) (wSeq (wIfS (wNotT (wTst (wCall 2 (S_is_less T) XP (waCons (wVar 12) (waCons (wVar 13) waNil))))) wCont wNext) (wIfS (wTst (wOp (w2ee (wVar 6) (wC (.int 0))) kGt)) (wApp 2 (wTup (waCons (wOp (w2ee (wVar 3) (wOp (w2ee (wVar 12) (wVar 5)) kSub)) kAdd) (waCons (wOp (w2ee (wVar 13) (wVar 12)) kSub) (waCons (wOp (w2ee (wVar 9) (wOp (w2ee (wVar 10) (wOp (w2ee (wVar 12) (wVar 7)) kSub)) kMul)) kAdd) (waCons (wVar 10) waNil)))))) (wApp 2 (wTup (waCons (wOp (w2ee (wVar 3) (wOp (w2ee (wOp (w2ee (wVar 5) (wVar 13)) kSub) (wC (.int 1))) kAdd)) kAdd) (waCons (wOp (w2ee (wVar 13) (wVar 12)) kSub) (waCons (wOp (w2ee (wVar 9) (wOp (w2ee (wVar 10) (wOp (w2ee (wOp (w2ee (wVar 13) (wC (.int 1))) kSub) (wVar 7)) kSub)) kMul)) kAdd) (waCons (wNeg (wVar 10)) waNil))))))))))
def w_pieces (T : Adr) (XP : XPr) : WS := (wSeq (wAsg (wVar 0) (wgTup 4 (wgsCons (wgName 3) (wgsCons (wgName 4) (wgsCons (wgName 5) (wgsCons (wgName 6) wgsNil)))))) (wSeq (wSet 2 (wLstO waNil)) (wSeq (wFor (wiT (wIfE (wTst (wOp (w2ee (wVar 6) (wC (.int 0))) kGt)) (wVar 1) (wRevT (wVar 1)))) (wgTup 4 (wgsCons (wgName 7) (wgsCons (wgName 8) (wgsCons (wgName 9) (wgsCons (wgName 10) wgsNil))))) (w_pieces_1 T XP)) (wRet (wFrz 2)))))
/-- by_start rows found row place one -/
def w_by_start_1 (T : Adr) (XP : XPr) : WS := (wSeq (wSet 3 (wSh (wOne (wKn (wLcO 1 (wgName 4) (wTst (wCall 2 (S_is_less T) XP0 (waCons (wOp (w2ee (wVar 4) (wC (.int 0))) kIx) (waCons (wOp (w2ee (wVar 2) (wC (.int 0))) kIx) waNil)))) (wVar 4) [4])) kLen))) (wInsert 1 (wVar 3) (wVar 2)))
def w_by_start (T : Adr) (XP : XPr) : WS := (wSeq (wSet 1 (wLstO waNil)) (wSeq (wFor (wiL (wVar 0)) (wgName 2) (w_by_start_1 T XP)) (wRet (wFrz 1))))
/-- Runs.__init__ self rows -/
def w_Runs_init (T : Adr) (XP : XPr) : WS := (wSeq (wMeSet 0 T.Runs [] "rows" (wOne (wCall 1 (S_in_form T) XP (waCons (wKn (wLstOf (wVar 1))) waNil)) kTupOf)) (wMeSet 0 T.Runs ["rows"] "size" (wOp (w2ee (wOp (w2ee (wOp (w2ee (wMeF 0 T.Runs ["rows"] 0) (wNeg (wC (.int 1)))) kIx) (wC (.int 0))) kIx) (wOp (w2ee (wOp (w2ee (wMeF 0 T.Runs ["rows"] 0) (wNeg (wC (.int 1)))) kIx) (wC (.int 1))) kIx)) kAdd)))
/-- Runs.__mul__ self other row piece -/
def w_Runs_mul (T : Adr) (XP : XPr) : WS := (wSeq (wIfS (wNotT (wTst (wCall 2 (S_is_same T) XP (waCons (wFld T.Runs nmRuns 1 (wVar 1)) (waCons (wFld T.Runs nmRuns 1 (wVar 0)) waNil))))) (wRaise T.BadSize "size" XP (wFld T.Runs nmRuns 1 (wVar 1))) wNext) (wRet (wMake T.Runs 1 (S_Runs_init T) XP (waCons (wKn (wLc2 (wiT (wFld T.Runs nmRuns 0 (wVar 1))) (wgName 2) wYes (wiL (wCall 2 (S_pieces T) XP0 (waCons (wVar 2) (waCons (wFld T.Runs nmRuns 0 (wVar 0)) waNil)))) (wgName 3) wYes (wVar 3) [2, 3] [3])) waNil))))
/-- Runs.__invert__ self turned start length goal way -/
def w_Runs_invert_1 (T : Adr) (XP : XPr) : WS := (wApp 1 (wIfE (wTst (wOp (w2ee (wVar 5) (wC (.int 0))) kGt)) (wTup (waCons (wVar 4) (waCons (wVar 3) (waCons (wVar 2) (waCons (wC (.int 1)) waNil))))) (wTup (waCons (wOp (w2ee (wOp (w2ee (wVar 4) (wVar 3)) kSub) (wC (.int 1))) kAdd) (waCons (wVar 3) (waCons (wOp (w2ee (wOp (w2ee (wVar 2) (wVar 3)) kAdd) (wC (.int 1))) kSub) (waCons (wNeg (wC (.int 1))) waNil)))))))
def w_Runs_invert (T : Adr) (XP : XPr) : WS := (wSeq (wSet 1 (wLstO waNil)) (wSeq (wFor (wiT (wFld T.Runs nmRuns 0 (wVar 0))) (wgTup 4 (wgsCons (wgName 2) (wgsCons (wgName 3) (wgsCons (wgName 4) (wgsCons (wgName 5) wgsNil))))) (w_Runs_invert_1 T XP)) (wRet (wMake T.Runs 1 (S_Runs_init T) XP (waCons (wCall 1 (S_by_start T) XP (waCons (wFrz 1) waNil)) waNil)))))
abbrev outD (Pv : D → Prop) : Out := { nx := fun _ => Pv .non, rt := fun d _ => Pv d }
section
variable {T : Adr} {XP : XPr} {ds : List D} {Pv : D → Prop}
theorem kb_1 : kitB "NoneType" "int" = some false := by decide +kernel
theorem kb_2 : kitB "bool" "int" = some true := by decide +kernel
theorem kb_3 : kitB "int" "int" = some true := by decide +kernel
theorem kb_4 : kitB "str" "int" = some false := by decide +kernel
theorem kb_5 : kitB "tuple" "int" = some false := by decide +kernel
theorem kb_6 : kitB "list" "int" = some false := by decide +kernel
theorem kb_7 : kitB "bool" "bool" = some true := by decide +kernel
theorem kb_8 : kitB "int" "bool" = some false := by decide +kernel
theorem kb_9 : kitB "str" "bool" = some false := by decide +kernel
@[simp] theorem S_parts_of_i (i : Int) : S_parts_of T [.int i] Pv XP ↔ Pv (.tup [.int 0, .int i]) := ⟨fun ⟨_, e, h⟩ => by cases e; exact h, fun h => ⟨i, rfl, h⟩⟩
@[simp] theorem S_sign_of_i (i : Int) : S_sign_of T [.int i] Pv XP ↔ Pv (.int (sgn i)) := ⟨fun ⟨_, e, h⟩ => by cases e; exact h, fun h => ⟨i, rfl, h⟩⟩
@[simp] theorem S_is_less_i (i j : Int) : S_is_less T [.int i, .int j] Pv XP ↔ Pv (.bl (decide (i < j))) := ⟨fun ⟨_, _, e, h⟩ => by cases e; exact h, fun h => ⟨i, j, rfl, h⟩⟩
@[simp] theorem S_is_same_i (i j : Int) : S_is_same T [.int i, .int j] Pv XP ↔ Pv (.bl (decide (i = j))) := ⟨fun ⟨_, _, e, h⟩ => by cases e; exact h, fun h => ⟨i, j, rfl, h⟩⟩
@[simp] theorem S_greater_i (i j : Int) : S_greater T [.int i, .int j] Pv XP ↔ Pv (.int (if i < j then j else i)) := ⟨fun ⟨_, _, e, h⟩ => by cases e; exact h, fun h => ⟨i, j, rfl, h⟩⟩
@[simp] theorem S_lesser_i (i j : Int) : S_lesser T [.int i, .int j] Pv XP ↔ Pv (.int (if j < i then j else i)) := ⟨fun ⟨_, _, e, h⟩ => by cases e; exact h, fun h => ⟨i, j, rfl, h⟩⟩
theorem L_is_integer (h : S_is_integer T ds Pv XP) : w_is_integer T XP (rho0 ["value"] ds) (outD Pv) := by
  obtain ⟨d, rfl, hd, h⟩ := h
  cases d <;> first | cases hd | skip
  all_goals simp [w_is_integer, rho0, kb_1, kb_2, kb_3, kb_4, kb_5, kb_6, kb_7, kb_8, kb_9] at h ⊢
  all_goals exact h
theorem L_parts_of (h : S_parts_of T ds Pv XP) : w_parts_of T XP (rho0 ["number"] ds) (outD Pv) := by
  obtain ⟨i, rfl, h⟩ := h
  simp [w_parts_of, rho0, h]
theorem L_sign_of (h : S_sign_of T ds Pv XP) : w_sign_of T XP (rho0 ["number", "way", "slope", "value"] ds) (outD Pv) := by
  obtain ⟨i, rfl, h⟩ := h
  simp [w_sign_of, rho0]
  unfold sgn at h
  by_cases h1 : 0 < i
  · rw [if_pos h1] at h
    simp [h1, show ¬ i < 0 by omega]
    exact h
  · rw [if_neg h1] at h
    by_cases h2 : i < 0
    · rw [if_pos h2] at h
      simp [h1, h2]
      exact h
    · rw [if_neg h2] at h
      simp [h1, h2]
      exact h
theorem sgn_lt (i : Int) : sgn i < 0 ↔ i < 0 := by unfold sgn; split <;> (try split) <;> omega
theorem sgn_eq (i : Int) : sgn i = 0 ↔ i = 0 := by unfold sgn; split <;> (try split) <;> omega
theorem L_is_less (h : S_is_less T ds Pv XP) : w_is_less T XP (rho0 ["one", "other"] ds) (outD Pv) := by
  obtain ⟨i, j, rfl, h⟩ := h
  simp [w_is_less, rho0]
  have : (decide (sgn (i - j) < 0)) = decide (i < j) := decide_eq_decide.mpr (by rw [sgn_lt]; omega)
  rw [this]
  exact h
theorem L_is_same (h : S_is_same T ds Pv XP) : w_is_same T XP (rho0 ["one", "other"] ds) (outD Pv) := by
  obtain ⟨i, j, rfl, h⟩ := h
  simp [w_is_same, rho0]
  have : (decide (sgn (i - j) = 0)) = decide (i = j) := decide_eq_decide.mpr (by rw [sgn_eq]; omega)
  rw [this]
  exact h
theorem L_greater (h : S_greater T ds Pv XP) : w_greater T XP (rho0 ["one", "other"] ds) (outD Pv) := by
  obtain ⟨i, j, rfl, h⟩ := h
  simp [w_greater, rho0]
  split at h <;> simp_all <;> intro q <;> omega
theorem L_lesser (h : S_lesser T ds Pv XP) : w_lesser T XP (rho0 ["one", "other"] ds) (outD Pv) := by
  obtain ⟨i, j, rfl, h⟩ := h
  simp [w_lesser, rho0]
  split at h <;> simp_all <;> intro q <;> omega
theorem mulA_pm {i j : Int} (h : i = 1 ∨ i = -1) : CMulA i j := .inl (.inl (by rcases h with rfl | rfl <;> omega))
theorem mulA_pm' {i j : Int} (h : j = 1 ∨ j = -1) : CMulA i j := .inl (.inr (by rcases h with rfl | rfl <;> omega))
theorem L_joined_row (h : S_joined_row T ds Pv XP) : w_joined_row T XP (rho0 ["row", "more", "start", "length", "goal", "way"] ds) (outD Pv) := by
  obtain ⟨⟨as, al, ag, aw⟩, ⟨bs, bl, bg, bw⟩, rfl, ok, h⟩ := h
  simp [w_joined_row, rho0, Row.d]
  have hok : aw = 1 ∨ aw = -1 := ok
  have key : ∀ w, (if al = 1 then (if bg = ag + 1 then 1 else -1) else aw) = w → (w = 1 ∨ w = -1) → CMulA w al ∧ (¬bg = ag + w * al → Pv D.non) ∧ (bg = ag + w * al → (bw = w → Pv (D.tup [D.int as, D.int (al + bl), D.int ag, D.int w])) ∧
      (¬bw = w → (¬bl = 1 → Pv D.non) ∧ (bl = 1 → Pv (D.tup [D.int as, D.int (al + bl), D.int ag, D.int w])))) := fun w e hw => by
    unfold joined at h
    simp only [e] at h
    refine ⟨mulA_pm hw, fun q => ?_, fun q => ⟨fun r => ?_, fun r => ⟨fun t => ?_, fun t => ?_⟩⟩⟩
    · rw [if_neg (fun z => q z.1)] at h; exact h
    · rw [if_pos ⟨q, .inl r⟩] at h; exact h
    · rw [if_neg (fun z => z.2.elim r t)] at h; exact h
    · rw [if_pos ⟨q, .inr t⟩] at h; exact h
  refine ⟨fun h1 => ⟨fun h2 => ?_, fun h2 => ?_⟩, fun h1 => key aw (by rw [if_neg h1]) hok⟩
  · have := key 1 (by rw [if_pos h1, if_pos h2]) (.inl rfl)
    rwa [Int.one_mul] at this
  · have := key (-1) (by rw [if_pos h1, if_neg h2]) (.inr rfl)
    rwa [Int.neg_mul, Int.one_mul] at this
/-! ### in_form -/
theorem wLoop_cons {wg : WG} {wb : WS} {d : D} {ds : List D} {ρ : Rho} {O : Out} : wLoop wg wb (d :: ds) ρ O = wg d ρ fun ρ' => wb ρ' { nx := fun ρ2 => wLoop wg wb ds ρ2 O, rt := O.rt, bk := O.nx, ct := fun ρ2 => wLoop wg wb ds ρ2 O } := rfl
/-- a loop that goes through the states of a fold -/
theorem wLoop_fold {α σ : Type} {wg : WG} {wb : WS} {O : Out} (emb : α → D) (f : σ → α → σ) (st : σ → Rho → Prop) (ok : σ → List α → Prop)
    (step : ∀ a s rest ρ (K : Rho → Prop), ok s (a :: rest) → st s ρ → (∀ ρ', st (f s a) ρ' → K ρ') → wg (emb a) ρ fun ρ' => wb ρ' { nx := K, rt := O.rt, bk := O.nx, ct := K }) (okn : ∀ a s rest, ok s (a :: rest) → ok (f s a) rest) :
    ∀ (l : List α) (s : σ) (ρ : Rho), ok s l → st s ρ → (∀ ρ', st (l.foldl f s) ρ' → O.nx ρ') → wLoop wg wb (l.map emb) ρ O
  | [], s, ρ, _, h, k => k ρ h
  | a :: l, s, ρ, o, h, k => step a s l ρ _ o h fun ρ' h' => wLoop_fold emb f st ok step okn l (f s a) ρ' (okn a s l o) h' k
theorem okL_cons {r : Row} {rs : List Row} (h : okL (r :: rs)) : r.ok ∧ okL rs := ⟨h r List.mem_cons_self, fun x hx => h x (List.mem_cons_of_mem _ hx)⟩
theorem Row.fix_ok {r : Row} (h : r.ok) : r.fix.ok := by
  unfold Row.ok Row.fix at *
  dsimp only
  split
  · exact .inl rfl
  · exact h
theorem joined_ok {a b m : Row} (h : a.ok) (e : joined a b = some m) : m.ok := by
  unfold joined at e
  generalize hw : (if a.l = 1 then (if b.g = a.g + 1 then (1 : Int) else -1) else a.w) = w at e
  have hw' : w = 1 ∨ w = -1 := by
    rw [← hw]
    split
    · split
      · exact .inl rfl
      · exact .inr rfl
    · exact h
  split at e
  · cases e
    exact hw'
  · cases e
theorem pushR_ok {acc : List Row} {r : Row} (h : okL acc) (hr : r.ok) : okL (pushR acc r) := by
  unfold pushR
  split
  · exact h
  · split
    · intro x hx
      rcases List.mem_append.mp hx with hx | hx
      · exact h x hx
      · rw [List.mem_singleton.mp hx]; exact Row.fix_ok hr
    · rename_i a ea
      split
      · intro x hx
        rcases List.mem_append.mp hx with hx | hx
        · exact h x hx
        · rw [List.mem_singleton.mp hx]; exact Row.fix_ok hr
      · rename_i m em
        intro x hx
        rcases List.mem_append.mp hx with hx | hx
        · exact h x (List.dropLast_subset _ hx)
        · rw [List.mem_singleton.mp hx]; exact joined_ok (h a (List.mem_of_getLast? ea)) em
theorem pushR_len (acc : List Row) (r : Row) : (pushR acc r).length ≤ acc.length + 1 := by
  unfold pushR
  split
  · omega
  · split
    · simp
    · split <;> simp <;> omega
theorem rows_plain : ∀ (xs : List Row) (n : Nat), plainDs (n + 1) (rowsD xs) = true
  | [], _ => rfl
  | x :: r, n => by
    show (plainD (n + 1) x.d && plainDs (n + 1) (rowsD r)) = true
    rw [rows_plain r n]
    rfl
theorem deq_nil (xs : List Row) : deq (.lst (rowsD xs)) (.lst []) = xs.isEmpty := by
  cases xs <;> rfl
theorem kNe_nil (xs : List Row) (P : D → Prop) : kNe 8 (.lst (rowsD xs)) (.lst []) P ↔ P (.bl (!xs.isEmpty)) := by
  unfold kNe
  rw [deq_nil]
  exact ⟨fun h => h.2.2, fun h => ⟨rows_plain xs 6, rfl, h⟩⟩
theorem small6 {n : Nat} (h : n ≤ 1000000) : n < sizeLine := Nat.lt_of_le_of_lt h (by decide)
theorem optR_isN (o : Option Row) : (optR o).isN = o.isNone := by cases o <;> rfl
theorem S_joined_use {a b : Row} {P : D → Prop} (ok : a.ok) (h : P (optR (joined a b))) : S_joined_row T [a.d, b.d] P XP := ⟨a, b, rfl, ok, h⟩
theorem body_in_form {XP' : XPr} {K bk : Rho → Prop} {rt : D → Rho → Prop} {acc : List Row} {r : Row} {x : D} {v3 : Option Sl} (ok1 : okL acc) (hl : acc.length < 1000000) (hK : ∀ v2 v3, K [some (.sh x), some (.ow (rowsD (pushR acc r))), v2, v3]) :
    w_in_form_1 T XP' [some (.sh x), some (.ow (rowsD acc)), some (.sh r.d), v3] { nx := K, rt := rt, bk := bk, ct := K } := by
  have hlen : (rowsD acc).length < sizeLine := by unfold rowsD; rw [List.length_map]; exact small6 (Nat.le_of_lt hl)
  have app : ∀ v2 v3, pushR acc r = acc ++ [r.fix] → K [some (.sh x), some (.ow (rowsD acc ++ [r.fix.d])), v2, v3] := fun v2 v3 e => by
    have := hK v2 v3
    rw [e] at this
    unfold rowsD at this ⊢
    rw [List.map_append] at this
    exact this
  obtain ⟨s, l, g, w⟩ := r
  simp [w_in_form_1, Row.d]
  refine ⟨fun h0 => ?_, fun h0 => ?_⟩
  · have := hK (some (.sh (Row.d ⟨s, l, g, w⟩))) v3
    unfold pushR at this
    rw [if_pos h0] at this
    exact this
  · rw [kNe_nil]
    have fx : ∀ v2 v3, pushR acc ⟨s, l, g, w⟩ = acc ++ [Row.fix ⟨s, l, g, w⟩] → (l = 1 → (rowsD acc).length < sizeLine ∧ K [some (.sh x), some (.ow (rowsD acc ++ [D.tup [D.int s, D.int l, D.int g, D.int 1]])), v2, v3]) ∧
        (¬l = 1 → (rowsD acc).length < sizeLine ∧ K [some (.sh x), some (.ow (rowsD acc ++ [D.tup [D.int s, D.int l, D.int g, D.int w]])), v2, v3]) := fun v2 v3 e => by
      have := app v2 v3 e
      unfold Row.fix Row.d at this
      dsimp only at this
      refine ⟨fun h1 => ⟨hlen, ?_⟩, fun h1 => ⟨hlen, ?_⟩⟩
      · rw [if_pos h1] at this; exact this
      · rw [if_neg h1] at this; exact this
    rcases List.eq_nil_or_concat acc with rfl | ⟨acc0, a, e⟩
    · simp
      have := fx
      simp [pushR, h0, rowsD] at this ⊢
      exact this _ _
    · rw [List.concat_eq_append] at e
      subst e
      have ea : (rowsD (acc0 ++ [a])) = rowsD acc0 ++ [a.d] := by unfold rowsD; rw [List.map_append]; rfl
      have eg : (acc0 ++ [a]).getLast? = some a := by simp
      have en : (acc0 ++ [a]).isEmpty = false := by cases acc0 <;> rfl
      rw [en]
      refine ⟨fun _ => ?_, fun z => by cases z⟩
      rw [ea]
      refine kIx_lst atI_last ?_
      refine S_joined_use (a := a) (b := ⟨s, l, g, w⟩) (ok1 a (by simp)) ?_
      have hp : pushR (acc0 ++ [a]) ⟨s, l, g, w⟩ = match joined a ⟨s, l, g, w⟩ with
          | none => (acc0 ++ [a]) ++ [Row.fix ⟨s, l, g, w⟩]
          | some m => (acc0 ++ [a]).dropLast ++ [m] := by
        unfold pushR
        rw [if_neg h0, eg]
      rw [← ea]
      cases ej : joined a ⟨s, l, g, w⟩ with
      | none =>
        rw [ej] at hp
        exact ⟨fun _ => fx _ _ hp, fun z => by cases z⟩
      | some m =>
        rw [ej] at hp
        refine ⟨fun z => (by cases z), fun _ => ?_⟩
        have hi : ixN (rowsD (acc0 ++ [a])).length (-1) = some acc0.length := by
          unfold ixN rowsD
          rw [if_neg (by omega), if_pos (by simp; omega)]
          congr 1
          rw [List.length_map, List.length_append, List.length_singleton]
          omega
        rw [hi]
        have := hK (some (.sh (Row.d ⟨s, l, g, w⟩))) (some (.sh m.d))
        rw [hp, List.dropLast_concat] at this
        have es : (rowsD (acc0 ++ [a])).set acc0.length (optR (some m)) = rowsD (acc0 ++ [m]) := by
          unfold rowsD
          rw [List.map_append, List.map_append, List.set_append_right _ _ (by simp)]
          simp [optR]
        dsimp only
        rw [es]
        exact this
theorem L_in_form (h : S_in_form T ds Pv XP) : w_in_form T XP (rho0 ["rows", "found", "row", "more"] ds) (outD Pv) := by
  obtain ⟨rs, rfl, ok, hl, h⟩ := h
  simp [w_in_form, rho0]
  refine wLoop_fold Row.d pushR (fun acc ρ => ∃ v2 v3, ρ = [some (.sh (.lst (rowsD rs))), some (.ow (rowsD acc)), v2, v3]) (fun acc rest => okL acc ∧ okL rest ∧ acc.length + rest.length ≤ 1000000) ?_ ?_ rs [] _ ⟨(fun _ z => by cases z), ok, by simpa using hl⟩ ⟨none, none, rfl⟩ ?_
  · rintro r acc rest ρ K ⟨o1, o2, o3⟩ ⟨v2, v3, rfl⟩ hK
    simp
    exact body_in_form o1 (by rw [List.length_cons] at o3; omega) fun v2 v3 => hK _ ⟨v2, v3, rfl⟩
  · rintro r acc rest ⟨o1, o2, o3⟩
    refine ⟨pushR_ok o1 (okL_cons o2).1, (okL_cons o2).2, ?_⟩
    have := pushR_len acc r
    rw [List.length_cons] at o3
    omega
  · rintro ρ ⟨v2, v3, rfl⟩
    simp
    exact h
/-! ### pieces -/
def pushP (r : Row) (acc : List Row) (o : Row) : List Row := match piece r o with
  | some p => acc ++ [p]
  | none => acc
theorem foldl_pushP (r : Row) : ∀ (os acc : List Row), os.foldl (pushP r) acc = acc ++ os.filterMap (piece r)
  | [], acc => by simp
  | o :: os, acc => by
    rw [List.foldl_cons, foldl_pushP r os, List.filterMap_cons]
    unfold pushP
    cases piece r o <;> simp
theorem body_pieces {XP' : XPr} {K bk : Rho → Prop} {rt : D → Rho → Prop} {acc : List Row} {r o : Row} {x : D} {u1 u2 u3 : Option Sl} (ok1 : r.ok) (ok2 : o.ok) (hl : acc.length < 1000000)
    (hK : ∀ u1 u2 u3, K [some (.sh r.d), some (.sh x), some (.ow (rowsD (pushP r acc o))), some (.sh (.int r.s)), some (.sh (.int r.l)), some (.sh (.int r.g)), some (.sh (.int r.w)), some (.sh (.int o.s)), some (.sh (.int o.l)), some (.sh (.int o.g)), some (.sh (.int o.w)), u1, u2, u3]) :
    w_pieces_1 T XP' [some (.sh r.d), some (.sh x), some (.ow (rowsD acc)), some (.sh (.int r.s)), some (.sh (.int r.l)), some (.sh (.int r.g)), some (.sh (.int r.w)), some (.sh (.int o.s)), some (.sh (.int o.l)), some (.sh (.int o.g)), some (.sh (.int o.w)), u1, u2, u3] { nx := K, rt := rt, bk := bk, ct := K } := by
  have hlen : (rowsD acc).length < sizeLine := by unfold rowsD; rw [List.length_map]; exact small6 (Nat.le_of_lt hl)
  have kn : piece r o = none → ∀ u1 u2 u3, K [some (.sh r.d), some (.sh x), some (.ow (rowsD acc)), some (.sh (.int r.s)), some (.sh (.int r.l)), some (.sh (.int r.g)), some (.sh (.int r.w)), some (.sh (.int o.s)), some (.sh (.int o.l)), some (.sh (.int o.g)), some (.sh (.int o.w)), u1, u2, u3] := fun e u1 u2 u3 => by
    have := hK u1 u2 u3
    unfold pushP at this
    rw [e] at this
    exact this
  have ks : ∀ p, piece r o = some p → ∀ u1 u2 u3, K [some (.sh r.d), some (.sh x), some (.ow (rowsD acc ++ [p.d])), some (.sh (.int r.s)), some (.sh (.int r.l)), some (.sh (.int r.g)), some (.sh (.int r.w)), some (.sh (.int o.s)), some (.sh (.int o.l)), some (.sh (.int o.g)), some (.sh (.int o.w)), u1, u2, u3] := fun p e u1 u2 u3 => by
    have := hK u1 u2 u3
    unfold pushP at this
    rw [e] at this
    unfold rowsD at this ⊢
    rw [List.map_append] at this
    exact this
  simp only [piece] at kn ks
  simp [w_pieces_1]
  rcases ok1 with hw | hw
  · have h1 : (0 : Int) < r.w := by omega
    simp only [h1, if_true] at kn ks
    refine ⟨fun _ => ?_, fun z => by omega⟩
    generalize (if r.g < o.s then o.s else r.g) = b at kn ks ⊢
    generalize (if o.s + o.l < r.g + r.l then o.s + o.l else r.g + r.l) = e at kn ks ⊢
    refine ⟨fun h2 => kn (if_neg (by omega)) _ _ _, fun h2 => ⟨fun _ => ⟨mulA_pm ok2, hlen, ?_⟩, fun z => by omega⟩⟩
    exact ks _ (if_pos h2) _ _ _
  · have h1 : ¬ (0 : Int) < r.w := by omega
    simp only [h1, if_false] at kn ks
    refine ⟨fun z => absurd z h1, fun _ => ?_⟩
    generalize (if r.g - r.l + 1 < o.s then o.s else r.g - r.l + 1) = b at kn ks ⊢
    generalize (if o.s + o.l < r.g - r.l + 1 + r.l then o.s + o.l else r.g - r.l + 1 + r.l) = e at kn ks ⊢
    refine ⟨fun h2 => kn (if_neg (by omega)) _ _ _, fun h2 => ⟨fun z => absurd z h1, fun _ => ⟨mulA_pm ok2, hlen, ?_⟩⟩⟩
    exact ks _ (if_pos h2) _ _ _
theorem L_pieces (h : S_pieces T ds Pv XP) : w_pieces T XP (rho0 ["row", "others", "found", "start", "length", "goal", "way", "first", "many", "there", "turn", "low", "begin", "end"] ds) (outD Pv) := by
  obtain ⟨r, os, rfl, ok, oko, hl, h⟩ := h
  have go : ∀ l : List Row, okL l → l.length ≤ 1000000 → ((wLoop (wgTup 4 (wgsCons (wgName 7) (wgsCons (wgName 8) (wgsCons (wgName 9) (wgsCons (wgName 10) wgsNil))))) (w_pieces_1 T XP) (rowsD l)
      [some (.sh r.d), some (.sh (.tup (rowsD os))), some (.ow []), some (.sh (.int r.s)), some (.sh (.int r.l)), some (.sh (.int r.g)), some (.sh (.int r.w)), none, none, none, none, none, none, none]
      { nx := fun ρ => wRet (wFrz 2) ρ { nx := fun _ => Pv .non, rt := fun d _ => Pv d }, rt := fun d _ => Pv d }) ∨ ¬ Pv (.lst (rowsD (l.filterMap (piece r))))) := fun l okl hll => by
    by_cases hp : Pv (.lst (rowsD (l.filterMap (piece r))))
    · left
      refine wLoop_fold Row.d (pushP r) (fun acc ρ => ∃ u7 u8 u9 u10 u1 u2 u3, ρ = [some (.sh r.d), some (.sh (.tup (rowsD os))), some (.ow (rowsD acc)), some (.sh (.int r.s)), some (.sh (.int r.l)), some (.sh (.int r.g)), some (.sh (.int r.w)), u7, u8, u9, u10, u1, u2, u3])
        (fun acc rest => okL rest ∧ acc.length + rest.length ≤ 1000000) ?_ ?_ l [] _ ⟨okl, by simpa using hll⟩ ⟨none, none, none, none, none, none, none, rfl⟩ ?_
      · rintro o acc rest ρ K ⟨o2, o3⟩ ⟨u7, u8, u9, u10, u1, u2, u3, rfl⟩ hK
        simp [Row.d]
        exact body_pieces ok (okL_cons o2).1 (by rw [List.length_cons] at o3; omega) fun u1 u2 u3 => hK _ ⟨_, _, _, _, u1, u2, u3, rfl⟩
      · rintro o acc rest ⟨o2, o3⟩
        refine ⟨(okL_cons o2).2, ?_⟩
        rw [List.length_cons] at o3
        unfold pushP
        split
        · rw [List.length_append, List.length_singleton]; omega
        · omega
      · rintro ρ ⟨u7, u8, u9, u10, u1, u2, u3, rfl⟩
        simp
        rw [foldl_pushP]
        exact hp
    · exact .inr hp
  simp [w_pieces, rho0, Row.d]
  unfold pieces at h
  have hrev : okL os.reverse := fun x hx => oko x (List.mem_reverse.mp hx)
  have er : (rowsD os).reverse = rowsD os.reverse := by unfold rowsD; rw [List.map_reverse]
  refine ⟨fun h1 => ?_, fun h1 => ⟨by unfold rowsD; rw [List.length_map]; exact hl, ?_⟩⟩
  · rw [if_pos h1] at h
    exact (go os oko hl).resolve_right (fun z => z h)
  · rw [if_neg (by omega)] at h
    rw [er]
    exact (go os.reverse hrev (by rw [List.length_reverse]; exact hl)).resolve_right (fun z => z h)
/-! ### by_start -/
theorem wMap_gen {α β : Type} {emb : α → D} {emb' : β → D} {F : Rho → Prop} {wg : WG} {wt : WT} {we : WE} {vs : List Nat} {ρ0 : Rho} {k : List D → Rho → Prop} (f : α → Option β) (ok : α → Prop)
    (step : ∀ a (acc : List D) (K : List D → Rho → Prop), ok a → acc.length < sizeLine → (f a = none → K acc ρ0) → (∀ b, f a = some b → K (acc ++ [emb' b]) ρ0) → wg (emb a) ρ0 fun ρ2 => wt ρ2 fun b ρ3 => (b = true → we ρ3 fun y ρ4 => acc.length < sizeLine ∧ F (wipeR ρ4 vs) ∧ K (acc ++ [y]) (wipeR ρ4 vs)) ∧ (b = false → F (wipeR ρ3 vs) ∧ K acc (wipeR ρ3 vs))) :
    ∀ (l : List α) (acc : List D), (∀ a ∈ l, ok a) → acc.length + l.length ≤ 1000000 → k (acc ++ (l.filterMap f).map emb') ρ0 → wMap F wg wt we vs (l.map emb) ρ0 acc k
  | [], acc, _, _, h => by simpa [wMap] using h
  | a :: l, acc, o, hl, h => by
    rw [List.length_cons] at hl
    refine step a acc (fun acc' ρ => wMap F wg wt we vs (l.map emb) ρ acc' k) (o a List.mem_cons_self) (small6 (by omega)) (fun e => ?_) (fun b e => ?_)
    · refine wMap_gen f ok step l acc (fun x hx => o x (List.mem_cons_of_mem _ hx)) (by omega) ?_
      rw [List.filterMap_cons, e] at h
      exact h
    · refine wMap_gen f ok step l (acc ++ [emb' b]) (fun x hx => o x (List.mem_cons_of_mem _ hx)) (by rw [List.length_append, List.length_singleton]; omega) ?_
      rw [List.filterMap_cons, e] at h
      rw [List.append_assoc]
      exact h
theorem S_is_less_row {a b : Row} {P : D → Prop} : True := trivial
theorem body_by_start {XP' : XPr} {K bk : Rho → Prop} {rt : D → Rho → Prop} {acc : List Row} {r : Row} {x : D} {u1 : Option Sl} (hl : acc.length < 1000000)
    (hK : ∀ u1, K [some (.sh x), some (.ow (rowsD (insR acc r))), some (.sh r.d), u1, none]) :
    w_by_start_1 T XP' [some (.sh x), some (.ow (rowsD acc)), some (.sh r.d), u1, none] { nx := K, rt := rt, bk := bk, ct := K } := by
  have hlen : (rowsD acc).length < sizeLine := by unfold rowsD; rw [List.length_map]; exact small6 (Nat.le_of_lt hl)
  simp [w_by_start_1, wLcO]
  refine wMap_gen (emb := Row.d) (emb' := Row.d) (fun o => if o.s < r.s then some o else none) (fun _ => True) (fun a acc1 K1 _ hl1 h0 h1 => ?_) acc [] (fun _ _ => trivial) (by simp; omega) ?_
  · obtain ⟨rs, rl, rg, rw'⟩ := r
    obtain ⟨as, al, ag, aw⟩ := a
    simp [Row.d, ownF, wipeR, hl1] at h0 h1 ⊢
    refine ⟨fun h => ?_, fun h => h0 h⟩
    exact h1 h
  · have ef : ∀ l : List Row, l.filterMap (fun o => if o.s < r.s then some o else none) = l.filter fun o => decide (o.s < r.s) := fun l => by
      induction l with
      | nil => rfl
      | cons a l ih =>
        rw [List.filterMap_cons, List.filter_cons]
        by_cases h : a.s < r.s <;> simp [h, ih]
    have := hK (some (.sh (.int (acc.filter fun o => decide (o.s < r.s)).length)))
    unfold insR at this
    have e2 : (((acc.filter fun o => decide (o.s < r.s)).length : Nat) : Int).toNat = (acc.filter fun o => decide (o.s < r.s)).length := by omega
    have hle : (acc.filter fun o => decide (o.s < r.s)).length ≤ acc.length := List.length_filter_le _ _
    rw [ef]
    simp
    refine ⟨hlen, by omega, ?_⟩
    unfold rowsD at this ⊢
    rw [List.map_append, List.map_append, List.map_take, List.map_drop] at this
    simpa using this
theorem insR_len (acc : List Row) (r : Row) : (insR acc r).length = acc.length + 1 := by
  unfold insR
  have hle : (acc.filter fun o => decide (o.s < r.s)).length ≤ acc.length := List.length_filter_le _ _
  rw [List.length_append, List.length_append, List.length_take, List.length_drop, List.length_singleton]
  omega
theorem L_by_start (h : S_by_start T ds Pv XP) : w_by_start T XP (rho0 ["rows", "found", "row", "place", "one"] ds) (outD Pv) := by
  obtain ⟨rs, rfl, hl, h⟩ := h
  simp [w_by_start, rho0]
  refine wLoop_fold Row.d insR (fun acc ρ => ∃ v2 v3, ρ = [some (.sh (.lst (rowsD rs))), some (.ow (rowsD acc)), v2, v3, none]) (fun acc rest => acc.length + rest.length ≤ 1000000) ?_ ?_ rs [] _ (by simpa using hl) ⟨none, none, rfl⟩ ?_
  · rintro r acc rest ρ K o3 ⟨v2, v3, rfl⟩ hK
    simp
    exact body_by_start (by rw [List.length_cons] at o3; omega) fun v3 => hK _ ⟨_, v3, rfl⟩
  · rintro r acc rest o3
    have := insR_len acc r
    rw [List.length_cons] at o3
    omega
  · rintro ρ ⟨v2, v3, rfl⟩
    simp
    exact h
/-! ### Runs -/
theorem rows_last {rs : List Row} {z : Row} (h : rs.getLast? = some z) : atI (rowsD rs) (-1) = some z.d := by
  rcases List.eq_nil_or_concat rs with rfl | ⟨rs0, a, e⟩
  · cases h
  · rw [List.concat_eq_append] at e
    subst e
    have : a = z := by simpa using h
    subst this
    have ea : (rowsD (rs0 ++ [a])) = rowsD rs0 ++ [a.d] := by unfold rowsD; rw [List.map_append]; rfl
    rw [ea]
    exact atI_last
@[simp] theorem S_in_form_i (rs : List Row) : S_in_form T [.lst (rowsD rs)] Pv XP ↔ ∃ rs', rowsD rs = rowsD rs' ∧ okL rs' ∧ rs'.length ≤ 1000000 ∧ Pv (.lst (rowsD (inForm rs'))) :=
  ⟨fun ⟨rs', e, h⟩ => ⟨rs', by simpa using e, h⟩, fun ⟨rs', e, h⟩ => ⟨rs', by rw [e], h⟩⟩
theorem L_Runs_init {Pm : List Str → List D → Prop} (h : S_Runs_init T ds Pm XP) : w_Runs_init T XP (rhoI ["self", "rows"] T.Runs ds) { nx := wMade T.Runs Pm, rt := fun _ _ => False } := by
  obtain ⟨rs, z, rfl, ok, hl, hz, h⟩ := h
  simp [w_Runs_init, rhoI]
  refine ⟨rs, rfl, ok, hl, ?_⟩
  refine kIx_tup (rows_last hz) ?_
  simp [Row.d]
  refine kIx_tup (rows_last hz) ?_
  simp [Row.d]
  exact ⟨rfl, h⟩
theorem wMap2_gen {α β : Type} {emb : α → D} {emb' : β → D} {wg wg1 : WG} {wt wt1 : WT} {wi1 : WI} {we : WE} {vs vs1 : List Nat} {ρ0 : Rho} {k : List D → Rho → Prop} (g : α → List β) (ok : α → Prop)
    (step : ∀ a (acc : List D) (K : List D → Rho → Prop), ok a → acc.length + (g a).length ≤ 1000000 → K (acc ++ (g a).map emb') ρ0 → wg (emb a) ρ0 fun ρ2 => wt ρ2 fun b ρ3 =>
      (b = true → wi1 ρ3 fun ds1 ρ4 => noneAt ρ4 vs1 ∧ wMap yesF wg1 wt1 we vs1 ds1 ρ4 acc fun acc2 ρ5 => K acc2 (wipeR ρ5 vs)) ∧ (b = false → K acc (wipeR ρ3 vs))) :
    ∀ (l : List α) (acc : List D), (∀ a ∈ l, ok a) → acc.length + (l.flatMap g).length ≤ 1000000 → k (acc ++ (l.flatMap g).map emb') ρ0 → wMap2 wg wt wi1 wg1 wt1 we vs vs1 (l.map emb) ρ0 acc k
  | [], acc, _, _, h => by simpa [wMap2] using h
  | a :: l, acc, o, hl, h => by
    rw [List.flatMap_cons, List.length_append] at hl
    refine step a acc (fun acc' ρ => wMap2 wg wt wi1 wg1 wt1 we vs vs1 (l.map emb) ρ acc' k) (o a List.mem_cons_self) (by omega) ?_
    refine wMap2_gen g ok step l (acc ++ (g a).map emb') (fun x hx => o x (List.mem_cons_of_mem _ hx)) (by rw [List.length_append, List.length_map]; omega) ?_
    rw [List.flatMap_cons, List.map_append] at h
    rw [List.append_assoc]
    exact h
theorem piece_ok {r o p : Row} (h : o.ok) (e : piece r o = some p) : p.ok := by
  simp only [piece] at e
  unfold Row.ok at *
  by_cases h1 : 0 < r.w
  · simp only [h1, if_true, Option.ite_none_right_eq_some, Option.some.injEq] at e
    rw [← e.2]
    exact h
  · simp only [h1, if_false, Option.ite_none_right_eq_some, Option.some.injEq] at e
    rw [← e.2]
    show -o.w = 1 ∨ -o.w = -1
    omega
theorem pieces_ok {r : Row} {os : List Row} (h : okL os) : okL (pieces r os) := fun p hp => by
  unfold pieces at hp
  obtain ⟨o, ho, e⟩ := List.mem_filterMap.mp hp
  have : o ∈ os := by
    split at ho
    · exact ho
    · exact List.mem_reverse.mp ho
  exact piece_ok (h o this) e
theorem pieces_len (r : Row) (os : List Row) : (pieces r os).length ≤ os.length := by
  unfold pieces
  refine Nat.le_trans (List.length_filterMap_le _ _) ?_
  split
  · exact Nat.le_refl _
  · rw [List.length_reverse]; exact Nat.le_refl _
theorem flat_ok {a b : List Row} (h : okL a) : okL (b.flatMap fun r => pieces r a) := fun p hp => by
  obtain ⟨r, _, h2⟩ := List.mem_flatMap.mp hp
  exact pieces_ok h p h2
theorem flat_len {a : List Row} : ∀ b : List Row, (b.flatMap fun r => pieces r a).length ≤ b.length * a.length
  | [] => by simp
  | r :: b => by
    rw [List.flatMap_cons, List.length_append, List.length_cons, Nat.succ_mul]
    have := pieces_len r a
    have := flat_len (a := a) b
    omega
@[simp] theorem S_pieces_i (r : Row) (os : List Row) : S_pieces T [r.d, .tup (rowsD os)] Pv XP ↔ S_pieces T [r.d, .tup (rowsD os)] Pv XP := Iff.rfl
theorem L_Runs_mul (h : S_Runs_mul T ds Pv XP) : w_Runs_mul T XP (rho0 ["self", "other", "row", "piece"] ds) (outD Pv) := by
  obtain ⟨a, b, n, m, rfl, oa, ob, la, lb, hx, h⟩ := h
  simp [w_Runs_mul, rho0, runsD]
  refine ⟨fun e => hx e, fun e => ?_⟩
  obtain ⟨z, hz, h⟩ := h e
  unfold wLc2
  simp
  have hfl : (b.flatMap fun r => pieces r a).length ≤ 1000000 := Nat.le_trans (flat_len b) (Nat.le_trans (Nat.mul_le_mul lb la) (by decide))
  refine wMap2_gen (emb := Row.d) (emb' := Row.d) (fun r => pieces r a) (fun r => r.ok) (fun r acc K okr hl hk => ?_) b [] ob (by simpa using hfl) ?_
  · simp
    refine ⟨r, a, rfl, okr, oa, by omega, ?_⟩
    simp
    refine wMap_gen (emb := Row.d) (emb' := Row.d) some (fun _ => True) (fun p acc1 K1 _ hl1 h0 h1 => ?_) (pieces r a) acc (fun _ _ => trivial) hl ?_
    · simp [yesF, wipeR, hl1]
      exact h1 p rfl
    · simp [wipeR]
      exact hk
  · simp
    refine ⟨_, z, rfl, flat_ok oa, hfl, hz, ?_⟩
    exact h
/-! ### ~ -/
theorem inv_ok (r : Row) : r.inv.ok := by
  unfold Row.inv Row.ok
  split
  · exact .inl rfl
  · exact .inr rfl
theorem insR_mem {acc : List Row} {r x : Row} (h : x ∈ insR acc r) : x ∈ acc ∨ x = r := by
  unfold insR at h
  rcases List.mem_append.mp h with h | h
  · rcases List.mem_append.mp h with h | h
    · exact .inl (List.mem_of_mem_take h)
    · exact .inr (List.mem_singleton.mp h)
  · exact .inl (List.mem_of_mem_drop h)
theorem byStart_mem : ∀ (rs acc : List Row) {x : Row}, x ∈ rs.foldl insR acc → x ∈ acc ∨ x ∈ rs
  | [], acc, x, h => .inl h
  | r :: rs, acc, x, h => by
    rcases byStart_mem rs (insR acc r) h with h | h
    · rcases insR_mem h with h | h
      · exact .inl h
      · exact .inr (by rw [h]; exact List.mem_cons_self)
    · exact .inr (List.mem_cons_of_mem _ h)
theorem byStart_len : ∀ (rs acc : List Row), (rs.foldl insR acc).length = acc.length + rs.length
  | [], acc => by simp
  | r :: rs, acc => by rw [List.foldl_cons, byStart_len, insR_len, List.length_cons]; omega
theorem body_invert {XP' : XPr} {K bk : Rho → Prop} {rt : D → Rho → Prop} {acc : List Row} {r : Row} {x : D} (hl : acc.length < 1000000)
    (hK : K [some (.sh x), some (.ow (rowsD (acc ++ [r.inv]))), some (.sh (.int r.s)), some (.sh (.int r.l)), some (.sh (.int r.g)), some (.sh (.int r.w))]) :
    w_Runs_invert_1 T XP' [some (.sh x), some (.ow (rowsD acc)), some (.sh (.int r.s)), some (.sh (.int r.l)), some (.sh (.int r.g)), some (.sh (.int r.w))] { nx := K, rt := rt, bk := bk, ct := K } := by
  have hlen : (rowsD acc).length < sizeLine := by unfold rowsD; rw [List.length_map]; exact small6 (Nat.le_of_lt hl)
  simp [w_Runs_invert_1, hlen]
  have ea : (rowsD (acc ++ [r.inv])) = rowsD acc ++ [r.inv.d] := by unfold rowsD; rw [List.map_append]; rfl
  rw [ea] at hK
  unfold Row.inv at hK
  refine ⟨fun h => ?_, fun h => ?_⟩
  · rw [if_pos h] at hK; exact hK
  · rw [if_neg (by omega)] at hK; exact hK
theorem foldl_snoc {α β : Type} (f : α → β) : ∀ (l : List α) (acc : List β), l.foldl (fun acc r => acc ++ [f r]) acc = acc ++ l.map f
  | [], acc => by simp
  | a :: l, acc => by rw [List.foldl_cons, foldl_snoc f l]; simp
theorem L_Runs_invert (h : S_Runs_invert T ds Pv XP) : w_Runs_invert T XP (rho0 ["self", "turned", "start", "length", "goal", "way"] ds) (outD Pv) := by
  obtain ⟨a, n, z, rfl, ok, hl, hz, h⟩ := h
  simp [w_Runs_invert, rho0, runsD]
  refine wLoop_fold Row.d (fun acc r => acc ++ [r.inv]) (fun acc ρ => ∃ v2 v3 v4 v5, ρ = [some (.sh (runsD T a n)), some (.ow (rowsD acc)), v2, v3, v4, v5]) (fun acc rest => acc.length + rest.length ≤ 1000000) ?_ ?_ a [] _ (by simpa using hl) ⟨none, none, none, none, rfl⟩ ?_
  · rintro r acc rest ρ K o3 ⟨v2, v3, v4, v5, rfl⟩ hK
    simp [Row.d]
    exact body_invert (by rw [List.length_cons] at o3; omega) (hK _ ⟨_, _, _, _, rfl⟩)
  · rintro r acc rest o3
    rw [List.length_cons] at o3
    rw [List.length_append, List.length_singleton]
    omega
  · rintro ρ ⟨v2, v3, v4, v5, rfl⟩
    rw [foldl_snoc]
    simp
    refine ⟨a.map Row.inv, rfl, by rw [List.length_map]; exact hl, ?_⟩
    refine ⟨byStart (a.map Row.inv), z, rfl, fun x hx => ?_, ?_, hz, h⟩
    · rcases byStart_mem _ _ hx with hx | hx
      · cases hx
      · obtain ⟨r, _, rfl⟩ := List.mem_map.mp hx
        exact inv_ok r
    · unfold byStart
      rw [byStart_len, List.length_map]
      simpa using hl
end
end DL
end

section
set_option maxRecDepth 100000
set_option maxHeartbeats 1000000
namespace DL
open PySem PySem.Spec L2
/-! ### the law's helpers -/
def intsD (xs : List Int) : List D := xs.map .int
def rangeI (n : Nat) : List Int := (List.range n).map fun (i : Nat) => (i : Int)
/-- a rearrangement of 0 .. n - 1 -/
def IsRow (xs : List Int) : Prop := xs.Perm (rangeI xs.length)
def expand (r : Row) : List Int := (List.range r.l.toNat).map fun (k : Nat) => r.g + r.w * k
def expandAll (rs : List Row) : List Int := rs.flatMap expand
def good (a : Row) : Prop := 1 ≤ a.l ∧ a.ok ∧ (a.l = 1 → a.w = 1)
def Canon : List Row → Prop
  | [] => True
  | [a] => good a
  | a :: b :: r => good a ∧ joined a b = none ∧ Canon (b :: r)
def Starts : Int → List Row → Prop
  | _, [] => True
  | c, a :: r => a.s = c ∧ Starts (c + a.l) r
def singles : Nat → List Int → List Row
  | _, [] => []
  | n, x :: xs => ⟨n, 1, x, 1⟩ :: singles (n + 1) xs
def S_need_row (_ : Adr) : Spc := fun ds P _ => ∃ xs : List Int, ds = [.lst (intsD xs)] ∧ xs.Nodup ∧ (∀ x ∈ xs, 0 ≤ x ∧ x < xs.length) ∧ xs.length ≤ 1000000 ∧ P .non
def S_runs_of_list (T : Adr) : Spc := fun ds P _ => ∃ (xs : List Int) (z : Row), ds = [.lst (intsD xs)] ∧ xs.Nodup ∧ (∀ x ∈ xs, 0 ≤ x ∧ x < xs.length) ∧ 1 ≤ xs.length ∧ xs.length ≤ 1000 ∧ (inForm (singles 0 xs)).getLast? = some z ∧ P (runsD T (inForm (singles 0 xs)) (z.s + z.l))
def S__law_form (_ : Adr) : Spc := fun ds P _ => ∃ xs : List Int, ds = [.lst (intsD xs)] ∧ xs.length ≤ 100000 ∧ ∀ R, Canon R → Starts 0 R → expandAll R = xs → P (.lst (rowsD R))
def S__law_after (_ : Adr) : Spc := fun ds P _ => ∃ xs ys zs : List Int, ds = [.lst (intsD xs), .lst (intsD ys)] ∧ xs.length ≤ 100000 ∧ xs.mapM (fun x => if 0 ≤ x then ys[x.toNat]? else none) = some zs ∧ P (.lst (intsD zs))
def S__law_draw (_ : Adr) : SpcP := fun m ds P => ∃ many : Int, ds = [.int many] ∧ 0 < many ∧ many.natAbs.log2 < 9000 ∧ m < 1000000 ∧ ∀ r, 0 ≤ r → r < many → P (.int r) (m + 1)
def S__law_shuffled (_ : Adr) : SpcP := fun m ds P => ∃ xs : List D, ds = [.lst xs] ∧ xs.length ≤ 100000 ∧ m + xs.length < 1000000 ∧ ∀ ys, ys.Perm xs → P (.lst ys) (m + xs.length)
def S__law_row (_ : Adr) : SpcP := fun m ds P => ∃ n : Nat, ds = [.int n] ∧ n ≤ 100000 ∧ m + n < 1000000 ∧ ∀ xs : List Int, xs.Perm (rangeI n) → P (.lst (intsD xs)) (m + n)
def S__law_blocks (_ : Adr) : SpcP := fun m ds P => ∃ n : Nat, ds = [.int n] ∧ n ≤ 100000 ∧ m + 3 * n < 1000000 ∧ ∀ (xs : List Int) m', xs.Perm (rangeI n) → m' ≤ m + 3 * n → P (.lst (intsD xs)) m'
/-- need_row: row seen index part -/
def w_need_row_1 (T : Adr) (XP : XPr) : WS := (wSeq (wIfS (wOrT (wNotT (wTst (wCall 1 (S_is_integer T) XP (waCons (wVar 3) waNil)))) (wOrT (wNotT (wTst (wChain (fun i j => decide (i ≤ j)) (fun i j => decide (i < j)) (wC (.int 0)) (wVar 3) (wOne (wVar 0) kLen)))) (wTst (wDin 1 false (wVar 3))))) wNever wNext) (wDput 1 (wC (.bl true)) (wVar 3)))
def w_need_row (T : Adr) (XP : XPr) : WS := (wSeq (wSet 1 wDictO) (wFor (wiE (wVar 0)) (wgTup 2 (wgsCons (wgName 2) (wgsCons (wgName 3) wgsNil))) (w_need_row_1 T XP)))
/-- runs_of_list: places at place -/
def w_runs_of_list (T : Adr) (XP : XPr) : WS := (wSeq (wDrop (wCall 1 (S_need_row T) XP (waCons (wVar 0) waNil))) (wSeq (wIfS (wNotT (wTst (wChain (fun i j => decide (i ≤ j)) (fun i j => decide (i ≤ j)) (wC (.int 1)) (wOne (wVar 0) kLen) (wC (.int 1000))))) (wRaise T.BadSize "size" XP (wOne (wVar 0) kLen)) wNext) (wRet (wMake T.Runs 1 (S_Runs_init T) XP (waCons (wKn (wLc (wiE (wVar 0)) (wgTup 2 (wgsCons (wgName 1) (wgsCons (wgName 2) wgsNil))) wYes (wTup (waCons (wVar 1) (waCons (wC (.int 1)) (waCons (wVar 2) (waCons (wC (.int 1)) waNil))))) [1, 2])) waNil)))))
/-- _law_form: row turn found at k many way -/
def w__law_form_1 (T : Adr) (XP : XPr) : WS := (wIfS (wAndT (wTst (wOp (w2ee (wVar 4) (wOp (w2ee (wVar 3) (wVar 5)) kAdd)) (kEq 8))) (wTst (wOp (w2ee (wOp (w2ee (wVar 0) (wVar 4)) kIx) (wOp (w2ee (wOp (w2ee (wVar 0) (wVar 3)) kIx) (wOp (w2ee (wVar 6) (wVar 5)) kMul)) kAdd)) (kEq 8)))) (wSet 5 (wSh (wOp (w2ee (wVar 5) (wC (.int 1))) kAdd))) wNext)
def w__law_form_2 (T : Adr) (XP : XPr) : WS := (wSeq (wFor (wiR2 (wOp (w2ee (wVar 3) (wC (.int 1))) kAdd) (wOne (wVar 0) kLen)) (wgName 4) (w__law_form_1 T XP)) (wSeq (wApp 2 (wTup (waCons (wVar 3) (waCons (wVar 5) (waCons (wOp (w2ee (wVar 0) (wVar 3)) kIx) (waCons (wIfE (wTst (wOp (w2ee (wVar 5) (wC (.int 1))) kGt)) (wVar 6) (wC (.int 1))) waNil)))))) (wSet 3 (wSh (wOp (w2ee (wVar 3) (wVar 5)) kAdd)))))
def w__law_form_3 (T : Adr) (XP : XPr) : WS := (wIfS (wTst (wOp (w2ee (wVar 3) (wOne (wVar 0) kLen)) kLt)) (wSeq (wAsg (wTup (waCons (wC (.int 1)) (waCons (wC (.int 1)) waNil))) (wgTup 2 (wgsCons (wgName 5) (wgsCons (wgName 6) wgsNil)))) (wSeq (wIfS (wAndT (wTst (wOp (w2ee (wOp (w2ee (wVar 3) (wC (.int 1))) kAdd) (wOne (wVar 0) kLen)) kLt)) (wTst (wOp (w2ee (wOp (w2ee (wVar 0) (wOp (w2ee (wVar 3) (wC (.int 1))) kAdd)) kIx) (wOp (w2ee (wOp (w2ee (wVar 0) (wVar 3)) kIx) (wC (.int 1))) kSub)) (kEq 8)))) (wSet 6 (wSh (wNeg (wC (.int 1))))) wNext) (w__law_form_2 T XP))) wNext)
def w__law_form (T : Adr) (XP : XPr) : WS := (wSeq (wPar 2 3 (wLstO waNil) (wSh (wC (.int 0)))) (wSeq (wFor (wiR1 (wOne (wVar 0) kLen)) (wgName 1) (w__law_form_3 T XP)) (wRet (wFrz 2))))
/-- _law_after: row things part -/
def w__law_after (T : Adr) (XP : XPr) : WS := (wRet (wKn (wLc (wiL (wVar 0)) (wgName 2) wYes (wOp (w2ee (wVar 1) (wVar 2)) kIx) [2])))
/-- _law_draw: pen many at cell mixed digit -/
def w__law_draw_1 (T : Adr) (XP : XPr) : WS := (wRet (wOp (w2ee (wOne (wOp (w2ee (wOp (w2ee (wOne (wOp (w2ee (wVar 4) (wVar 4)) kMul) kInt) (wC (.int 2147483563))) kMod) (wC (.int 64))) kDiv) kInt) (wVar 1)) kMod))
def w__law_draw_2 (T : Adr) (XP : XPr) : WS := (wSeq (wSet 4 (wSh (wOp (w2ee (wOne (wOp (w2ee (wVar 4) (wOp (w2ee (wVar 4) (wC (.int 40014))) kAdd)) kMul) kInt) (wC (.int 2147483587))) kMod))) (w__law_draw_1 T XP))
def w__law_draw_3 (T : Adr) (XP : XPr) : WS := (wSeq (wSet 4 (wSh (wOp (w2ee (wOne (wVar 4) kInt) (wC (.int 2147483647))) kMod))) (w__law_draw_2 T XP))
def w__law_draw_4 (T : Adr) (XP : XPr) : WS := (wSeq (wSet 4 (wSh (wOp (w2ee (wOp (w2ee (wOp (w2ee (wOp (w2ee (wOp (w2ee (wOne (wVar 3) kInt) (wC (.int 2147483629))) kMod) (wC (.int 48271))) kMul) (wOp (w2ee (wOp (w2ee (wC (.int 69621)) (wVar 2)) kMul) (wVar 2)) kMul)) kAdd) (wOp (w2ee (wC (.int 59)) (wVar 2)) kMul)) kAdd) (wC (.int 11))) kAdd))) (w__law_draw_3 T XP))
def w__law_draw_5 (T : Adr) (XP : XPr) : WS := (wSeq (wIfS (wAndT (wTst (wOp (w2ee (wVar 2) (wOne (wKget 0 "cells") kLen)) kLt)) (wTst (wOp (w2ee (wVar 3) (wOp (w2ee (wC (.int 10)) (wC (.int 18))) kPow)) kGe))) (wSeq (wKset 0 "left" (wOp (w2ee (wOp (w2ee (wVar 3) (wOp (w2ee (wC (.int 10)) (wC (.int 18))) kPow)) kSub) (wVar 1)) kDiv)) (wRet (wOp (w2ee (wOne (wOp (w2ee (wVar 3) (wOp (w2ee (wC (.int 10)) (wC (.int 18))) kPow)) kSub) kInt) (wVar 1)) kMod))) wNext) (w__law_draw_4 T XP))
def w__law_draw_6 (T : Adr) (XP : XPr) : WS := (wSeq (wIfS (wTst (wOp (w2ee (wKget 0 "cells") (wKn (wLstO waNil))) (kNe 8))) (wSet 3 (wSh (wOp (w2ee (wKget 0 "cells") (wOp (w2ee (wOne (wVar 2) kInt) (wOne (wKget 0 "cells") kLen)) kMod)) kIx))) wNext) (w__law_draw_5 T XP))
def w__law_draw_7 (T : Adr) (XP : XPr) : WS := (wSeq (wSet 2 (wSh (wKget 0 "at"))) (wSeq (wKset 0 "at" (wOp (w2ee (wVar 2) (wC (.int 1))) kAdd)) (wSeq (wSet 3 (wSh (wOp (w2ee (wOp (w2ee (wC (.int 41)) (wVar 2)) kMul) (wC (.int 13))) kAdd))) (w__law_draw_6 T XP))))
def w__law_draw (T : Adr) (XP : XPr) : WS := (wSeq (wIfS (wTst (wOp (w2ee (wKget 0 "left") (wVar 1)) kGe)) (wSeq (wSet 5 (wSh (wOp (w2ee (wOne (wKget 0 "left") kInt) (wVar 1)) kMod))) (wSeq (wKset 0 "left" (wOp (w2ee (wKget 0 "left") (wVar 1)) kDiv)) (wRet (wVar 5)))) wNext) (w__law_draw_7 T XP))
/-- _law_shuffled: pen some k left found -/
def w__law_shuffled_1 (T : Adr) (XP : XPr) : WS := (wApp 4 (wPop 3 (wCallP 0 1 (S__law_draw T) (waCons (wOne (wOwn 3) kLen) waNil))))
def w__law_shuffled (T : Adr) (XP : XPr) : WS := (wSeq (wPar 3 4 (wLstOf (wVar 1)) (wLstO waNil)) (wSeq (wFor (wiR1 (wOne (wOwn 3) kLen)) (wgName 2) (w__law_shuffled_1 T XP)) (wRet (wFrz 4))))
/-- _law_row: pen size -/
def w__law_row (T : Adr) (XP : XPr) : WS := (wRet (wCallP 0 1 (S__law_shuffled T) (waCons (wKn (wLstRg1 (wVar 1))) waNil)))
/-- _law_blocks: pen size turn block found at blocks many -/
def w__law_blocks_1 (T : Adr) (XP : XPr) : WS := (wIfS (wTst (wOp (w2ee (wVar 5) (wVar 1)) kLt)) (wSeq (wSet 7 (wSh (wOp (w2ee (wC (.int 1)) (wCallP 0 1 (S__law_draw T) (waCons (w22 (wC (.int 6)) (wOne (wOp (w2ee (wVar 1) (wVar 5)) kSub) kInt) kMin2) waNil))) kAdd))) (wSeq (wSet 3 (wSh (wKn (wLstRg2 (wVar 5) (wOp (w2ee (wVar 5) (wVar 7)) kAdd))))) (wSeq (wApp 6 (wIfE (wTst (wOp (w2ee (wCallP 0 1 (S__law_draw T) (waCons (wC (.int 3)) waNil)) (wC (.int 0))) (kEq 8))) (wRev (wVar 3)) (wVar 3))) (wSet 5 (wSh (wOp (w2ee (wVar 5) (wVar 7)) kAdd)))))) wNext)
def w__law_blocks_2 (T : Adr) (XP : XPr) : WS := (wSet 4 (wSh (wOp (w2ee (wVar 4) (wVar 3)) kAdd)))
def w__law_blocks (T : Adr) (XP : XPr) : WS := (wSeq (wPar3 4 5 6 (wSh (wKn (wLstO waNil))) (wSh (wC (.int 0))) (wLstO waNil)) (wSeq (wFor (wiR1 (wVar 1)) (wgName 2) (w__law_blocks_1 T XP)) (wSeq (wFor (wiL (wCallP 0 1 (S__law_shuffled T) (waCons (wFrz 6) waNil))) (wgName 3) (w__law_blocks_2 T XP)) (wRet (wVar 4)))))
section
variable {T : Adr} {XP : XPr} {ds : List D} {Pv : D → Prop}
/-! ### the draw -/
section
variable {m : Nat} {Pp : D → Nat → Prop} {ns : List Int} {at_ left many : Int} {v2 v3 v4 v5 : Option Sl} {Q : Rho → Prop}
theorem nK1 : ¬ (Str.ofString "cells" = Str.ofString "left") := by decide
theorem nK2 : ¬ (Str.ofString "at" = Str.ofString "left") := by decide
theorem nK3 : ¬ (Str.ofString "cells" = Str.ofString "at") := by decide
theorem nK4 : ¬ (Str.ofString "left" = Str.ofString "at") := by decide
theorem val_left : valD (penKvs ns at_ left) (.inr "left") = some (.int left) := by simp [valD, penKvs, nK1, nK2]
theorem val_at : valD (penKvs ns at_ left) (.inr "at") = some (.int at_) := by simp [valD, penKvs, nK3]
theorem val_cells : valD (penKvs ns at_ left) (.inr "cells") = some (.lst (intsD ns)) := by simp [valD, penKvs, intsD]
theorem put_left {x : Int} : putD (penKvs ns at_ left) (.inr "left") (.int x) = penKvs ns at_ x := by simp [putD, penKvs, nK1, nK2]
theorem put_at {x : Int} : putD (penKvs ns at_ left) (.inr "at") (.int x) = penKvs ns x left := by simp [putD, penKvs, nK3, nK4]
theorem has_left : hasK (penKvs ns at_ left) (.inr "left") = true := by simp [hasK, penKvs]
theorem has_at : hasK (penKvs ns at_ left) (.inr "at") = true := by simp [hasK, penKvs]
theorem len_pen : (penKvs ns at_ left).length < 1000000 := by show 3 < 1000000; decide
theorem draw_end {r : Int} {rest : Rho} (h1 : ns.length ≤ 63) (h2 : 0 ≤ at_) (h3 : at_ ≤ (m : Int) + 1) (h4 : 0 ≤ left) (h : Pp (.int r) (m + 1)) : wDrawEnd Pp (.int r) (some (.dk (penKvs ns at_ left)) :: rest) :=
  ⟨ns, at_, left, m + 1, rfl, h1, h2, by omega, h4, h⟩
theorem draw_1 {x : Int} (h1 : ns.length ≤ 63) (h2 : 0 ≤ at_) (h3 : at_ ≤ (m : Int) + 1) (h4 : 0 ≤ left) (hm : 0 < many) (h : ∀ r, 0 ≤ r → r < many → Pp (.int r) (m + 1)) (x0 : 0 ≤ x) (x1 : x < 2147483647) :
    w__law_draw_1 T XP [some (.dk (penKvs ns at_ left)), some (.sh (.int many)), v2, v3, some (.sh (.int x)), v5] { nx := Q, rt := wDrawEnd Pp } := by
  simp [w__law_draw_1]
  refine ⟨.inl (.inl (by omega)), ⟨by decide, by decide⟩, hm, ?_⟩
  exact draw_end h1 h2 h3 h4 (h _ (Int.emod_nonneg _ (by omega)) (Int.emod_lt_of_pos _ hm))
theorem draw_2 {x : Int} (h1 : ns.length ≤ 63) (h2 : 0 ≤ at_) (h3 : at_ ≤ (m : Int) + 1) (h4 : 0 ≤ left) (hm : 0 < many) (h : ∀ r, 0 ≤ r → r < many → Pp (.int r) (m + 1)) (x0 : 0 ≤ x) (x1 : x < 2147483647) :
    w__law_draw_2 T XP [some (.dk (penKvs ns at_ left)), some (.sh (.int many)), v2, v3, some (.sh (.int x)), v5] { nx := Q, rt := wDrawEnd Pp } := by
  simp [w__law_draw_2]
  exact ⟨.inl (.inl (by omega)), draw_1 h1 h2 h3 h4 hm h (Int.emod_nonneg _ (by omega)) (by have := Int.emod_lt_of_pos (x * (x + 40014)) (show (0 : Int) < 2147483587 by omega); omega)⟩
theorem draw_3 {x : Int} (h1 : ns.length ≤ 63) (h2 : 0 ≤ at_) (h3 : at_ ≤ (m : Int) + 1) (h4 : 0 ≤ left) (hm : 0 < many) (h : ∀ r, 0 ≤ r → r < many → Pp (.int r) (m + 1)) :
    w__law_draw_3 T XP [some (.dk (penKvs ns at_ left)), some (.sh (.int many)), v2, v3, some (.sh (.int x)), v5] { nx := Q, rt := wDrawEnd Pp } := by
  simp [w__law_draw_3]
  exact draw_2 h1 h2 h3 h4 hm h (Int.emod_nonneg _ (by omega)) (Int.emod_lt_of_pos _ (by omega))
theorem draw_4 {x a : Int} (h1 : ns.length ≤ 63) (h2 : 0 ≤ at_) (h3 : at_ ≤ (m : Int) + 1) (h4 : 0 ≤ left) (hm : 0 < many) (h : ∀ r, 0 ≤ r → r < many → Pp (.int r) (m + 1)) (a0 : 0 ≤ a) (a1 : a < 1000000) :
    w__law_draw_4 T XP [some (.dk (penKvs ns at_ left)), some (.sh (.int many)), some (.sh (.int a)), some (.sh (.int x)), v4, v5] { nx := Q, rt := wDrawEnd Pp } := by
  simp [w__law_draw_4]
  exact ⟨.inl (.inr (by omega)), .inl (.inl (by omega)), .inl (.inr (by omega)), .inl (.inl (by omega)), draw_3 h1 h2 h3 h4 hm h⟩
theorem draw_5 {x a : Int} (h1 : ns.length ≤ 63) (h2 : 0 ≤ at_) (h3 : at_ ≤ (m : Int) + 1) (h4 : 0 ≤ left) (hm : 0 < many) (hl : many.natAbs.log2 < 9000) (h : ∀ r, 0 ≤ r → r < many → Pp (.int r) (m + 1)) (a0 : 0 ≤ a) (a1 : a < 1000000) :
    w__law_draw_5 T XP [some (.dk (penKvs ns at_ left)), some (.sh (.int many)), some (.sh (.int a)), some (.sh (.int x)), v4, v5] { nx := Q, rt := wDrawEnd Pp } := by
  have d4 : w__law_draw_4 T XP [some (.dk (penKvs ns at_ left)), some (.sh (.int many)), some (.sh (.int a)), some (.sh (.int x)), v4, v5] { nx := Q, rt := wDrawEnd Pp } := draw_4 h1 h2 h3 h4 hm h a0 a1
  have cp : CPow 10 18 := ⟨by decide, by decide, by decide⟩
  simp [w__law_draw_5, val_cells, val_left, has_left, len_pen, put_left]
  refine ⟨fun q => ⟨cp, fun q2 => ⟨cp, ⟨hm, hl⟩, cp, hm, ?_⟩, fun _ => d4⟩, fun _ => d4⟩
  exact draw_end h1 h2 h3 (Int.ediv_nonneg (by omega) (by omega)) (h _ (Int.emod_nonneg _ (by omega)) (Int.emod_lt_of_pos _ hm))
theorem draw_6 {x a : Int} (h1 : ns.length ≤ 63) (h2 : 0 ≤ at_) (h3 : at_ ≤ (m : Int) + 1) (h4 : 0 ≤ left) (hm : 0 < many) (hl : many.natAbs.log2 < 9000) (h : ∀ r, 0 ≤ r → r < many → Pp (.int r) (m + 1)) (a0 : 0 ≤ a) (a1 : a < 1000000) :
    w__law_draw_6 T XP [some (.dk (penKvs ns at_ left)), some (.sh (.int many)), some (.sh (.int a)), some (.sh (.int x)), v4, v5] { nx := Q, rt := wDrawEnd Pp } := by
  have hne : kNe 8 (.lst (intsD ns)) (.lst []) = fun P => kNe 8 (.lst (intsD ns)) (.lst []) P := rfl
  simp [w__law_draw_6, val_cells]
  have hpl : ∀ l : List Int, plainDs 7 (intsD l) = true := fun l => by
    induction l with
    | nil => rfl
    | cons y r ih => show (true && plainDs 7 (intsD r)) = true; rw [ih]; rfl
  unfold kNe
  refine ⟨hpl ns, rfl, fun q => ?_, fun q => ?_⟩
  · have h0 : 0 < ns.length := by
      cases ns with
      | nil => exact absurd q (by decide)
      | cons y r => simp
    have hl0 : (0 : Int) < (intsD ns).length := by unfold intsD; rw [List.length_map]; omega
    refine ⟨by omega, ?_⟩
    have r0 := Int.emod_nonneg a (show ((intsD ns).length : Int) ≠ 0 by omega)
    have r1 := Int.emod_lt_of_pos a hl0
    have hi : (a % ((intsD ns).length : Int)).toNat < ns.length := by
      have : (intsD ns).length = ns.length := by unfold intsD; rw [List.length_map]
      omega
    refine kIx_lst (atI_ok (x := .int (ns[(a % ((intsD ns).length : Int)).toNat]'hi)) r0 ?_) ?_
    · unfold intsD at hi ⊢
      rw [List.getElem?_map, List.getElem?_eq_getElem hi]
      rfl
    · exact draw_5 h1 h2 h3 h4 hm hl h a0 a1
  · exact draw_5 h1 h2 h3 h4 hm hl h a0 a1
theorem L_law_draw (h : S__law_draw T m ds Pp) (h1 : ns.length ≤ 63) (h2 : 0 ≤ at_) (h3 : at_ ≤ (m : Int)) (h4 : 0 ≤ left) :
    w__law_draw T XP (some (.dk (penKvs ns at_ left)) :: (ds.map (fun d => some (.sh d)) ++ List.replicate (["pen", "many", "at", "cell", "mixed", "digit"].length - (ds.length + 1)) none)) { nx := wDrawEnd Pp .non, rt := wDrawEnd Pp } := by
  obtain ⟨many, rfl, hm, hl, hb, h⟩ := h
  simp [w__law_draw, val_left, has_left, len_pen, put_left]
  refine ⟨fun _ => ⟨hm, ⟨hm, hl⟩, draw_end h1 h2 (by omega) (Int.ediv_nonneg (by omega) (by omega)) (h _ (Int.emod_nonneg _ (by omega)) (Int.emod_lt_of_pos _ hm))⟩, fun _ => ?_⟩
  simp [w__law_draw_7, val_at, has_at, len_pen, put_at]
  exact ⟨.inl (.inl (by omega)), draw_6 h1 (by omega) (by omega) h4 hm hl h h2 (by omega)⟩
end
/-! ### loops by place -/
theorem wLoop_ix {wg : WG} {wb : WS} {O : Out} (st : Nat → Rho → Prop) : ∀ (ds : List D) (n : Nat) (ρ : Rho),
    (∀ i d ρ (K : Rho → Prop), ds[i]? = some d → st (n + i) ρ → (∀ ρ', st (n + i + 1) ρ' → K ρ') → wg d ρ fun ρ' => wb ρ' { nx := K, rt := O.rt, bk := O.nx, ct := K }) →
    st n ρ → (∀ ρ', st (n + ds.length) ρ' → O.nx ρ') → wLoop wg wb ds ρ O
  | [], n, ρ, _, h, k => k ρ h
  | d :: ds, n, ρ, step, h, k => step 0 d ρ _ rfl h fun ρ' h' => wLoop_ix st ds (n + 1) ρ' (fun i d' ρ2 K e h2 k2 => by
      refine step (i + 1) d' ρ2 K (by rw [List.getElem?_cons_succ]; exact e) (by rw [show n + (i + 1) = n + 1 + i by omega]; exact h2) fun ρ3 h3 => k2 ρ3 (by rw [show n + 1 + i + 1 = n + (i + 1) + 1 by omega]; exact h3)) h'
      (fun ρ2 h2 => k ρ2 (by rw [List.length_cons, show n + (ds.length + 1) = n + 1 + ds.length by omega]; exact h2))
theorem wLoop_range {wg : WG} {wb : WS} {O : Out} {lo : Int} {n : Nat} {ρ : Rho} (st : Nat → Rho → Prop)
    (step : ∀ (i : Nat) ρ (K : Rho → Prop), i < n → st i ρ → (∀ ρ', st (i + 1) ρ' → K ρ') → wg (.int (lo + i)) ρ fun ρ' => wb ρ' { nx := K, rt := O.rt, bk := O.nx, ct := K }) (h : st 0 ρ) (k : ∀ ρ', st n ρ' → O.nx ρ') : wLoop wg wb (rangeD lo n) ρ O := by
  refine wLoop_ix st (rangeD lo n) 0 ρ (fun i d ρ K e h2 k2 => ?_) h (by rw [Nat.zero_add]; unfold rangeD; rw [List.length_map, List.length_range]; exact k)
  unfold rangeD at e
  rw [List.getElem?_map] at e
  by_cases hi : i < n
  · rw [List.getElem?_range hi] at e
    cases e
    rw [Nat.zero_add] at h2 k2
    exact step i ρ K hi h2 k2
  · rw [List.getElem?_eq_none (by simpa using hi)] at e
    cases e
theorem enumD_at : ∀ (ds : List D) (n i : Nat) {d : D}, (enumD n ds)[i]? = some d → ∃ y, ds[i]? = some y ∧ d = .tup [.int ((n + i : Nat)), y]
  | [], n, i, d, h => by simp [enumD] at h
  | y :: r, n, 0, d, h => by
    simp [enumD] at h
    exact ⟨y, rfl, by rw [← h]; rfl⟩
  | y :: r, n, i + 1, d, h => by
    simp only [enumD, List.getElem?_cons_succ] at h
    obtain ⟨z, h1, h2⟩ := enumD_at r (n + 1) i h
    exact ⟨z, by rw [List.getElem?_cons_succ]; exact h1, by rw [h2, show n + 1 + i = n + (i + 1) by omega]⟩
theorem wLoop_enum {wg : WG} {wb : WS} {O : Out} {xs : List D} {ρ : Rho} (st : Nat → Rho → Prop)
    (step : ∀ (i : Nat) y ρ (K : Rho → Prop), xs[i]? = some y → st i ρ → (∀ ρ', st (i + 1) ρ' → K ρ') → wg (.tup [.int (i : Nat), y]) ρ fun ρ' => wb ρ' { nx := K, rt := O.rt, bk := O.nx, ct := K }) (h : st 0 ρ) (k : ∀ ρ', st xs.length ρ' → O.nx ρ') : wLoop wg wb (enumD 0 xs) ρ O := by
  refine wLoop_ix st (enumD 0 xs) 0 ρ (fun i d ρ K e h2 k2 => ?_) h (by rw [Nat.zero_add, enumD_len]; exact k)
  obtain ⟨y, h3, rfl⟩ := enumD_at xs 0 i e
  rw [Nat.zero_add] at h2 k2 ⊢
  exact step i y ρ K h3 h2 k2
/-! ### shuffled -/
theorem log2_small {n : Nat} (h : n < 2 ^ 9000) : n.log2 < 9000 := by
  by_cases h0 : n = 0
  · subst h0; decide
  · exact (Nat.log2_lt h0).mpr h
theorem log2_i {i : Int} (h0 : 0 ≤ i) (h : i ≤ 1000000) : i.natAbs.log2 < 9000 := log2_small (Nat.lt_of_le_of_lt (show i.natAbs ≤ 1000000 by omega) (by decide +kernel))
theorem perm_erase {α : Type} : ∀ {l : List α} {i : Nat} {x : α}, l[i]? = some x → (x :: l.eraseIdx i).Perm l
  | [], i, x, h => by simp at h
  | a :: l, 0, x, h => by
    simp at h; subst h; exact List.Perm.refl _
  | a :: l, i + 1, x, h => by
    rw [List.getElem?_cons_succ] at h
    rw [List.eraseIdx_cons_succ]
    exact (List.Perm.swap a x _).trans (.cons a (perm_erase h))
theorem L_law_shuffled {m : Nat} {Pp : D → Nat → Prop} (h : S__law_shuffled T m ds Pp) : w__law_shuffled T XP (rhoP ["pen", "some", "k", "left", "found"] m ds) { nx := wPenEnd Pp .non, rt := wPenEnd Pp } := by
  obtain ⟨xs, rfl, hl, hm, h⟩ := h
  simp [w__law_shuffled, rhoP]
  refine ⟨by omega, ?_⟩
  refine wLoop_range (fun i ρ => ∃ (u : Option Sl) (l f : List D), l.length + i = xs.length ∧ (f ++ l).Perm xs ∧ ρ = [some (.pn (m + i)), some (.sh (.lst xs)), u, some (.ow l), some (.ow f)]) ?_ ⟨none, xs, [], rfl, List.Perm.refl _, rfl⟩ ?_
  · rintro i ρ K hi ⟨u, l, f, e, p, rfl⟩ hK
    have hf : f.length ≤ 100000 := by
      have := p.length_eq
      rw [List.length_append] at this
      omega
    simp [w__law_shuffled_1]
    refine ⟨_, rfl, by omega, log2_i (by omega) (by omega), by omega, fun r r0 r1 => ?_⟩
    have hlt : r.toNat < l.length := by omega
    simp [r0]
    refine ⟨by omega, ?_⟩
    rw [List.getElem?_eq_getElem hlt]
    refine ⟨small6 (by omega), hK _ ⟨_, l.eraseIdx r.toNat, f ++ [l[r.toNat]], ?_, ?_, rfl⟩⟩
    · rw [List.length_eraseIdx_of_lt hlt]; omega
    · rw [List.append_assoc]
      exact ((perm_erase (List.getElem?_eq_getElem hlt)).append_left f).trans p
  · rintro ρ ⟨u, l, f, e, p, rfl⟩
    have : l = [] := List.eq_nil_of_length_eq_zero (by omega)
    subst this
    simp
    rw [List.append_nil] at p
    exact h f p
def unI : D → Int
  | .int i => i
  | _ => 0
theorem intsD_map (xs : List Int) : (intsD xs).map unI = xs := by
  unfold intsD
  rw [List.map_map]
  exact List.map_id'' (fun x => rfl) xs
theorem perm_ints {ys : List D} {xs : List Int} (p : ys.Perm (intsD xs)) : ∃ zs, ys = intsD zs ∧ zs.Perm xs := by
  refine ⟨ys.map unI, ?_, ?_⟩
  · have hm : ∀ y ∈ ys, y = D.int (unI y) := fun y hy => by
      have := p.mem_iff.mp hy
      unfold intsD at this
      obtain ⟨x, _, rfl⟩ := List.mem_map.mp this
      rfl
    unfold intsD
    rw [List.map_map]
    refine List.ext_getElem (by simp) fun i h1 h2 => ?_
    rw [List.getElem_map]
    exact hm _ (List.getElem_mem h1)
  · have := p.map unI
    rw [intsD_map] at this
    exact this
theorem rg_ints (n : Nat) : rgD 0 n = intsD (rangeI n) := by
  unfold rgD intsD rangeI
  rw [List.map_map]
  have : ((n : Int) - 0).toNat = n := by omega
  rw [this]
  refine List.map_congr_left fun i _ => ?_
  show D.int (0 + (i : Int)) = D.int i
  rw [Int.zero_add]
theorem L_law_row {m : Nat} {Pp : D → Nat → Prop} (h : S__law_row T m ds Pp) : w__law_row T XP (rhoP ["pen", "size"] m ds) { nx := wPenEnd Pp .non, rt := wPenEnd Pp } := by
  obtain ⟨n, rfl, hl, hm, h⟩ := h
  simp [w__law_row, rhoP]
  refine ⟨by omega, by omega, by omega, by omega, ?_⟩
  have en : (rgD 0 n).length = n := by rw [rg_ints]; unfold intsD rangeI; simp
  refine ⟨rgD 0 n, rfl, by omega, by omega, fun ys p => ?_⟩
  rw [en]
  rw [rg_ints] at p
  obtain ⟨zs, rfl, pz⟩ := perm_ints p
  exact h zs pz
/-! ### need_row, after, runs_of_list -/
theorem nd_inj {α : Type} {l : List α} (nd : l.Nodup) {i j : Nat} {x : α} (hi : l[i]? = some x) (hj : l[j]? = some x) : i = j := by
  obtain ⟨h1, e1⟩ := List.getElem?_eq_some_iff.mp hi
  obtain ⟨h2, e2⟩ := List.getElem?_eq_some_iff.mp hj
  rcases Nat.lt_trichotomy i j with h | h | h
  · exact absurd (e1.trans e2.symm) (List.pairwise_iff_getElem.mp nd i j h1 h2 h)
  · exact h
  · exact absurd (e2.trans e1.symm) (List.pairwise_iff_getElem.mp nd j i h2 h1 h)
@[simp] theorem S_is_integer_i (i : Int) : S_is_integer T [.int i] Pv XP ↔ Pv (.bl true) := ⟨fun ⟨_, e, _, h⟩ => by cases e; exact h, fun h => ⟨_, rfl, rfl, h⟩⟩
theorem L_need_row (h : S_need_row T ds Pv XP) : w_need_row T XP (rho0 ["row", "seen", "index", "part"] ds) (outD Pv) := by
  obtain ⟨xs, rfl, nd, hb, hl, h⟩ := h
  simp [w_need_row, rho0]
  refine wLoop_enum (fun i ρ => ∃ (u v : Option Sl) (kvs : List (Key × D)), kvs.map (·.1) = (xs.take i).map Sum.inl ∧ ρ = [some (.sh (.lst (intsD xs))), some (.dk kvs), u, v]) ?_ ⟨none, none, [], rfl, rfl⟩ ?_
  · rintro i y ρ K hi ⟨u, v, kvs, hk, rfl⟩ hK
    unfold intsD at hi
    rw [List.getElem?_map] at hi
    cases ex : xs[i]? with
    | none => rw [ex] at hi; cases hi
    | some x =>
      rw [ex] at hi
      cases hi
      have hx := hb x (List.mem_of_getElem? ex)
      have hxl : xs.length = (intsD xs).length := by unfold intsD; rw [List.length_map]
      have hil : i < xs.length := (List.getElem?_eq_some_iff.mp ex).1
      have hnot : hasK kvs (.inl x) = false := by
        unfold hasK
        rw [List.any_eq_false]
        intro q hq
        have hm : q.1 ∈ (xs.take i).map Sum.inl := by rw [← hk]; exact List.mem_map_of_mem hq
        obtain ⟨z, hz, ez⟩ := List.mem_map.mp hm
        rw [← ez]
        intro hc
        have : z = x := by
          have := of_decide_eq_true hc
          cases this; rfl
        subst this
        obtain ⟨j, hj, ej⟩ := List.mem_take_iff_getElem.mp hz
        have hj' : j < i := by omega
        have := nd_inj nd ex (List.getElem?_eq_some_iff.mpr ⟨by omega, ej⟩)
        omega
      have hkl : kvs.length < 1000000 := by
        have := congrArg List.length hk
        rw [List.length_map, List.length_map, List.length_take] at this
        omega
      simp [w_need_row_1, hnot, hkl]
      refine ⟨fun _ => ⟨by omega, fun _ => ?_⟩, hx.1⟩
      refine hK _ ⟨_, _, _, ?_, rfl⟩
      rw [List.map_append, hk, List.take_add_one, ex]
      simp
  · rintro ρ ⟨u, v, kvs, hk, rfl⟩
    exact h
theorem mapM_get {α β : Type} {f : α → Option β} : ∀ {xs : List α} {zs : List β}, xs.mapM f = some zs → zs.length = xs.length ∧ ∀ (i : Nat) (x : α) (z : β), xs[i]? = some x → zs[i]? = some z → f x = some z
  | [], zs, h => by
    simp at h; subst h
    exact ⟨rfl, fun i x z h => by simp at h⟩
  | a :: xs, zs, h => by
    rw [List.mapM_cons] at h
    cases ea : f a with
    | none => rw [ea] at h; cases h
    | some b =>
      rw [ea] at h
      cases er : xs.mapM f with
      | none => rw [er] at h; cases h
      | some r =>
        rw [er] at h
        have h : some (b :: r) = some zs := h
        cases h
        obtain ⟨l, g⟩ := mapM_get er
        refine ⟨by rw [List.length_cons, l, List.length_cons], fun i x z h1 h2 => ?_⟩
        cases i with
        | zero =>
          simp at h1 h2
          subst h1; subst h2; exact ea
        | succ i => exact g i x z (by simpa using h1) (by simpa using h2)
theorem wMap_all {α β : Type} {emb : α → D} {emb' : β → D} {F : Rho → Prop} {wg : WG} {wt : WT} {we : WE} {vs : List Nat} {ρ0 : Rho} {k : List D → Rho → Prop} (f : α → Option β)
    (step : ∀ a b (acc : List D) (K : List D → Rho → Prop), acc.length < sizeLine → f a = some b → K (acc ++ [emb' b]) ρ0 → wg (emb a) ρ0 fun ρ2 => wt ρ2 fun b ρ3 => (b = true → we ρ3 fun y ρ4 => acc.length < sizeLine ∧ F (wipeR ρ4 vs) ∧ K (acc ++ [y]) (wipeR ρ4 vs)) ∧ (b = false → F (wipeR ρ3 vs) ∧ K acc (wipeR ρ3 vs))) :
    ∀ (l : List α) (r : List β) (acc : List D), l.mapM f = some r → acc.length + l.length ≤ 1000000 → k (acc ++ r.map emb') ρ0 → wMap F wg wt we vs (l.map emb) ρ0 acc k
  | [], r, acc, e, _, h => by
    simp at e; subst e
    simpa [wMap] using h
  | a :: l, r, acc, e, hl, h => by
    rw [List.length_cons] at hl
    rw [List.mapM_cons] at e
    cases ea : f a with
    | none => rw [ea] at e; cases e
    | some b =>
      rw [ea] at e
      cases er : l.mapM f with
      | none => rw [er] at e; cases e
      | some r' =>
        rw [er] at e
        have e : some (b :: r') = some r := e
        cases e
        refine step a b acc (fun acc' ρ => wMap F wg wt we vs (l.map emb) ρ acc' k) (small6 (by omega)) ea ?_
        refine wMap_all f step l r' (acc ++ [emb' b]) er (by rw [List.length_append, List.length_singleton]; omega) ?_
        rw [List.append_assoc]
        exact h
theorem L_law_after (h : S__law_after T ds Pv XP) : w__law_after T XP (rho0 ["row", "things", "part"] ds) (outD Pv) := by
  obtain ⟨xs, ys, zs, rfl, hl, hz, h⟩ := h
  simp [w__law_after, rho0, wLc]
  refine wMap_all (emb := D.int) (emb' := D.int) _ (fun a b acc K hacc hf hk => ?_) xs zs [] hz (by simpa using (by omega : xs.length ≤ 1000000)) ?_
  · simp [yesF, wipeR]
    split at hf
    · rename_i h0
      refine kIx_lst (d := .int b) (atI_ok h0 ?_) ⟨hacc, hk⟩
      unfold intsD
      rw [List.getElem?_map, hf]
      rfl
    · cases hf
  · exact h
theorem singles_len : ∀ (xs : List Int) (n : Nat), (singles n xs).length = xs.length
  | [], _ => rfl
  | x :: xs, n => by show (singles (n + 1) xs).length + 1 = _; rw [singles_len xs (n + 1)]; rfl
theorem singles_ok : ∀ (xs : List Int) (n : Nat), okL (singles n xs)
  | [], _ => fun _ h => by cases h
  | x :: xs, n => fun r h => by
    rcases List.mem_cons.mp h with rfl | h
    · exact .inl rfl
    · exact singles_ok xs (n + 1) r h
def sing1 : D → D
  | .tup [.int i, .int x] => .tup [.int i, .int 1, .int x, .int 1]
  | d => d
theorem singles_map : ∀ (xs : List Int) (n : Nat), (enumD n (intsD xs)).map sing1 = rowsD (singles n xs)
  | [], _ => rfl
  | x :: xs, n => by
    show sing1 (.tup [.int (n : Nat), .int x]) :: (enumD (n + 1) (intsD xs)).map sing1 = _ :: rowsD (singles (n + 1) xs)
    rw [singles_map xs (n + 1)]
    rfl
theorem wMap_tot {F : Rho → Prop} {wg : WG} {wt : WT} {we : WE} {vs : List Nat} {ρ0 : Rho} {k : List D → Rho → Prop} (ok : D → Prop) (f : D → D)
    (step : ∀ a (acc : List D) (K : List D → Rho → Prop), ok a → acc.length < sizeLine → K (acc ++ [f a]) ρ0 → wg a ρ0 fun ρ2 => wt ρ2 fun b ρ3 => (b = true → we ρ3 fun y ρ4 => acc.length < sizeLine ∧ F (wipeR ρ4 vs) ∧ K (acc ++ [y]) (wipeR ρ4 vs)) ∧ (b = false → F (wipeR ρ3 vs) ∧ K acc (wipeR ρ3 vs))) :
    ∀ (l : List D) (acc : List D), (∀ a ∈ l, ok a) → acc.length + l.length ≤ 1000000 → k (acc ++ l.map f) ρ0 → wMap F wg wt we vs l ρ0 acc k
  | [], acc, _, _, h => by simpa [wMap] using h
  | a :: l, acc, o, hl, h => by
    rw [List.length_cons] at hl
    refine step a acc (fun acc' ρ => wMap F wg wt we vs l ρ acc' k) (o a List.mem_cons_self) (small6 (by omega)) ?_
    refine wMap_tot ok f step l (acc ++ [f a]) (fun x hx => o x (List.mem_cons_of_mem _ hx)) (by rw [List.length_append, List.length_singleton]; omega) ?_
    rw [List.append_assoc]
    exact h
theorem L_runs_of_list (h : S_runs_of_list T ds Pv XP) : w_runs_of_list T XP (rho0 ["places", "at", "place"] ds) (outD Pv) := by
  obtain ⟨xs, z, rfl, nd, hb, h1, h2, hz, h⟩ := h
  have hil : (intsD xs).length = xs.length := by unfold intsD; rw [List.length_map]
  simp [w_runs_of_list, rho0, hil]
  refine ⟨xs, rfl, nd, hb, by omega, ?_⟩
  refine ⟨fun _ => ⟨fun q => by omega, fun _ => ?_⟩, by omega⟩
  simp [wLc]
  refine wMap_tot (fun d => ∃ i x : Int, d = .tup [.int i, .int x]) sing1 ?_ _ [] ?_ (by rw [enumD_len, hil]; simpa using (by omega : xs.length ≤ 1000000)) ?_
  · rintro a acc K ⟨i, x, rfl⟩ hacc hk
    simp [yesF, wipeR]
    exact ⟨hacc, hk⟩
  · intro d hd
    obtain ⟨i, hi⟩ := List.getElem?_of_mem hd
    obtain ⟨y, q1, q2⟩ := enumD_at _ 0 i hi
    unfold intsD at q1
    rw [List.getElem?_map] at q1
    cases ex : xs[i]? with
    | none => rw [ex] at q1; cases q1
    | some x =>
      rw [ex] at q1
      cases q1
      exact ⟨_, x, q2⟩
  · rw [singles_map]
    exact ⟨_, z, rfl, singles_ok xs 0, by rw [singles_len]; omega, hz, h⟩
/-! ### blocks -/
theorem perm_map_inv {α β : Type} {f : α → β} {ys zs : List β} (p : ys.Perm zs) : ∀ bs : List α, zs = bs.map f → ∃ cs : List α, ys = cs.map f ∧ cs.Perm bs := by
  induction p with
  | nil => intro bs e; exact ⟨[], rfl, by cases bs with | nil => exact .nil | cons a r => cases e⟩
  | cons x p ih =>
    intro bs e
    cases bs with
    | nil => cases e
    | cons b bs =>
      rw [List.map_cons] at e
      injection e with e1 e2
      obtain ⟨cs, h1, h2⟩ := ih bs e2
      exact ⟨b :: cs, by rw [List.map_cons, h1, e1], .cons b h2⟩
  | swap x y l =>
    intro bs e
    match bs, e with
    | b :: c :: bs, e =>
      simp only [List.map_cons, List.cons.injEq] at e
      exact ⟨c :: b :: bs, by simp only [List.map_cons, List.cons.injEq]; exact ⟨e.2.1, e.1, e.2.2⟩, .swap b c bs⟩
    | [_], e => simp at e
    | [], e => cases e
  | trans p q ih1 ih2 =>
    intro bs e
    obtain ⟨cs, h1, h2⟩ := ih2 bs e
    obtain ⟨ds, h3, h4⟩ := ih1 cs h1
    exact ⟨ds, h3, h4.trans h2⟩
def fromI (a k : Nat) : List Int := (List.range k).map fun (i : Nat) => (a : Int) + i
theorem rgD_from (a k : Nat) : rgD a ((a : Int) + k) = intsD (fromI a k) := by
  unfold rgD intsD fromI
  rw [List.map_map]
  have : ((a : Int) + k - a).toNat = k := by omega
  rw [this]
  rfl
theorem range_from (a k : Nat) : rangeI a ++ fromI a k = rangeI (a + k) := by
  unfold rangeI fromI
  rw [List.range_add, List.map_append, List.map_map]
  congr 1
theorem intsD_append (xs ys : List Int) : intsD (xs ++ ys) = intsD xs ++ intsD ys := by unfold intsD; rw [List.map_append]
theorem intsD_rev (xs : List Int) : (intsD xs).reverse = intsD xs.reverse := by unfold intsD; rw [List.map_reverse]
theorem L_law_blocks {m : Nat} {Pp : D → Nat → Prop} (h : S__law_blocks T m ds Pp) : w__law_blocks T XP (rhoP ["pen", "size", "turn", "block", "found", "at", "blocks", "many"] m ds) { nx := wPenEnd Pp .non, rt := wPenEnd Pp } := by
  obtain ⟨n, rfl, hl, hm, h⟩ := h
  simp [w__law_blocks, rhoP]
  refine ⟨by omega, ?_⟩
  refine wLoop_range (fun i ρ => ∃ (u2 u3 u7 : Option Sl) (a m' : Nat) (bs : List (List Int)), min i n ≤ a ∧ a ≤ n ∧ bs.flatten.Perm (rangeI a) ∧ bs.length ≤ i ∧ m' ≤ m + 2 * i ∧
    ρ = [some (.pn m'), some (.sh (.int n)), u2, u3, some (.sh (.lst [])), some (.sh (.int a)), some (.ow (bs.map fun b => D.lst (intsD b))), u7]) ?_ ⟨none, none, none, 0, m, [], by omega, by omega, .nil, by simp, by omega, rfl⟩ ?_
  · rintro i ρ K hi ⟨u2, u3, u7, a, m', bs, h1, h2, h3, h4, h5, rfl⟩ hK
    simp [w__law_blocks_1]
    refine ⟨fun ha => ?_, fun ha => hK _ ⟨_, u3, u7, a, m', bs, by omega, h2, h3, by omega, by omega, rfl⟩⟩
    generalize hmn : (if (n : Int) - a < 6 then (n : Int) - a else 6) = lim
    have l1 : 0 < lim := by rw [← hmn]; split <;> omega
    have l2 : lim ≤ n - a := by rw [← hmn]; split <;> omega
    have l3 : lim ≤ 6 := by rw [← hmn]; split <;> omega
    refine ⟨lim, rfl, l1, log2_i (by omega) (by omega), by omega, fun r r0 r1 => ?_⟩
    simp
    obtain ⟨k, rfl⟩ : ∃ k : Nat, r = k := ⟨r.toNat, by omega⟩
    have ek : (1 : Int) + k = ((k + 1 : Nat) : Int) := by omega
    rw [ek]
    refine ⟨by omega, by omega, by omega, by omega, ?_⟩
    rw [rgD_from]
    refine ⟨3, rfl, by omega, log2_i (by omega) (by omega), by omega, fun r r0 r1 => ?_⟩
    have hbl : (List.map (fun b => D.lst (intsD b)) bs).length < sizeLine := by rw [List.length_map]; exact small6 (by omega)
    have fin : ∀ b : List Int, b.Perm (fromI a (k + 1)) → K [some (.pn (m' + 1 + 1)), some (.sh (.int n)), some (.sh (.int (0 + (i : Nat)))), some (.sh (.lst (intsD (fromI a (k + 1))))), some (.sh (.lst [])), some (.sh (.int ((a : Int) + ((k + 1 : Nat) : Int)))), some (.ow ((bs.map fun b => D.lst (intsD b)) ++ [.lst (intsD b)])), some (.sh (.int ((k + 1 : Nat) : Int)))] := fun b hb => by
      refine hK _ ⟨some (.sh (.int (0 + (i : Nat)))), some (.sh (.lst (intsD (fromI a (k + 1))))), some (.sh (.int ((k + 1 : Nat) : Int))), a + (k + 1), m' + 1 + 1, bs ++ [b], by omega, by omega, ?_, ?_, by omega, ?_⟩
      · rw [List.flatten_append, ← range_from]
        refine h3.append ?_
        simpa using hb
      · rw [List.length_append, List.length_singleton]; omega
      · rw [List.map_append]
        rfl
    have f1 := fin (fromI a (k + 1)) (.refl _)
    have f2 := fin (fromI a (k + 1)).reverse (List.reverse_perm _)
    rw [← intsD_rev] at f2
    rw [Int.zero_add] at f1 f2
    have hbl' : bs.length < sizeLine := small6 (by omega)
    show kEq 8 (.int r) (.int 0) _
    rw [kEq_int]
    exact ⟨fun _ => ⟨hbl', f2⟩, fun _ => ⟨hbl', f1⟩⟩
  · rintro ρ ⟨u2, u3, u7, a, m', bs, h1, h2, h3, h4, h5, rfl⟩
    have ea : a = n := by omega
    subst ea
    simp
    refine ⟨_, rfl, by rw [List.length_map]; omega, by rw [List.length_map]; omega, fun ys p => ?_⟩
    obtain ⟨cs, rfl, pc⟩ := perm_map_inv p bs rfl
    have pf : cs.flatten.Perm (rangeI a) := (List.Perm.flatten pc).trans h3
    have hfl : cs.flatten.length = a := by rw [pf.length_eq]; unfold rangeI; simp
    simp
    refine wLoop_fold (fun b => D.lst (intsD b)) (fun acc b => acc ++ b) (fun acc ρ => ∃ (u2 u3 u5 u6 u7 : Option Sl), ρ = [some (.pn (m' + bs.length)), some (.sh (.int a)), u2, u3, some (.sh (.lst (intsD acc))), u5, u6, u7]) (fun acc rest => acc.length + rest.flatten.length ≤ 100000) ?_ ?_ cs [] _ (by rw [List.length_nil]; omega) ⟨_, _, _, _, _, rfl⟩ ?_
    · rintro b acc rest ρ K ho ⟨u2, u3, u5, u6, u7, rfl⟩ hK
      rw [List.flatten_cons, List.length_append] at ho
      simp [w__law_blocks_2]
      refine ⟨Nat.le_of_lt (small6 (by unfold intsD; rw [List.length_map, List.length_map]; omega)), ?_⟩
      rw [← intsD_append]
      exact hK _ ⟨_, _, _, _, _, rfl⟩
    · rintro b acc rest ho
      rw [List.flatten_cons, List.length_append] at ho
      rw [List.length_append]
      omega
    · rintro ρ ⟨u2, u3, u5, u6, u7, rfl⟩
      have e : ∀ (l : List (List Int)) (acc : List Int), l.foldl (fun acc b => acc ++ b) acc = acc ++ l.flatten := fun l => by
        induction l with
        | nil => intro acc; simp
        | cons x r ih => intro acc; rw [List.foldl_cons, ih, List.flatten_cons, List.append_assoc]
      rw [e]
      show Pp (.lst (intsD ([] ++ cs.flatten))) _
      rw [List.nil_append]
      exact h _ _ pf (by omega)
/-! ### form -/
theorem canon_snoc : ∀ {R : List Row} {b : Row}, Canon R → good b → (∀ z, R.getLast? = some z → joined z b = none) → Canon (R ++ [b])
  | [], b, _, hb, _ => hb
  | [a], b, ha, hb, hj => ⟨ha, hj a rfl, hb⟩
  | a :: c :: r, b, ha, hb, hj => ⟨ha.1, ha.2.1, canon_snoc (R := c :: r) ha.2.2 hb fun z hz => hj z (by rw [List.getLast?_cons_cons]; exact hz)⟩
theorem starts_snoc : ∀ {R : List Row} {c : Int} {b : Row}, Starts c R → b.s = c + (R.map Row.l).sum → Starts c (R ++ [b])
  | [], c, b, _, h => ⟨by simpa using h, trivial⟩
  | a :: r, c, b, hs, h => ⟨hs.1, starts_snoc hs.2 (by rw [h, List.map_cons, List.sum_cons]; omega)⟩
theorem expandAll_snoc (R : List Row) (b : Row) : expandAll (R ++ [b]) = expandAll R ++ expand b := by
  unfold expandAll; rw [List.flatMap_append]; simp
/-- the last row and what comes next -/
def Closed (xs : List Int) (a : Nat) (R : List Row) : Prop := ∀ z, R.getLast? = some z → ∀ x, xs[a]? = some x → (z.l = 1 → x ≠ z.g + 1 ∧ x ≠ z.g - 1) ∧ (z.l ≠ 1 → x ≠ z.g + z.w * z.l)
theorem closed_join {xs : List Int} {a : Nat} {R : List Row} (h : Closed xs a R) {b : Row} (hb : xs[a]? = some b.g) {z : Row} (hz : R.getLast? = some z) : joined z b = none := by
  obtain ⟨h1, h2⟩ := h z hz _ hb
  unfold joined
  refine if_neg fun q => ?_
  by_cases hl : z.l = 1
  · rw [if_pos hl, hl, Int.mul_one] at q
    have := h1 hl
    have q1 := q.1
    split at q1 <;> omega
  · rw [if_neg hl] at q
    exact h2 hl q.1
def Form (xs : List Int) (a : Nat) (R : List Row) : Prop := Canon R ∧ Starts 0 R ∧ expandAll R = xs.take a ∧ (R.map Row.l).sum = a ∧ R.length ≤ a ∧ Closed xs a R
theorem body_form1 {XP' : XPr} {K bk : Rho → Prop} {rt : D → Rho → Prop} {xs : List Int} {a k many : Nat} {x y way : Int} {v1 v2 v4 : Option Sl} (hx : xs[a]? = some x) (hy : xs[k]? = some y) (hw : way = 1 ∨ way = -1)
    (hK : ∀ many' : Nat, many' = (if k = a + many ∧ y = x + way * many then many + 1 else many) → K [some (.sh (.lst (intsD xs))), v1, v2, some (.sh (.int a)), v4, some (.sh (.int many')), some (.sh (.int way))]) (h4 : v4 = some (.sh (.int k))) :
    w__law_form_1 T XP' [some (.sh (.lst (intsD xs))), v1, v2, some (.sh (.int a)), v4, some (.sh (.int many)), some (.sh (.int way))] { nx := K, rt := rt, bk := bk, ct := K } := by
  subst h4
  have gx : atI (intsD xs) (a : Int) = some (.int x) := atI_ok (by omega) (by unfold intsD; rw [List.getElem?_map, show ((a : Int)).toNat = a by omega, hx]; rfl)
  have gy : atI (intsD xs) (k : Int) = some (.int y) := atI_ok (by omega) (by unfold intsD; rw [List.getElem?_map, show ((k : Int)).toNat = k by omega, hy]; rfl)
  simp [w__law_form_1]
  by_cases h1 : k = a + many
  · refine ⟨fun _ => ?_, fun z => by omega⟩
    refine kIx_lst gy ?_
    refine kIx_lst gx ?_
    simp
    refine ⟨mulA_pm hw, fun e => ?_, fun e => ?_⟩
    · have := hK (many + 1) (by rw [if_pos ⟨h1, e⟩])
      simpa using this
    · exact hK many (by rw [if_neg fun z => e z.2])
  · refine ⟨fun z => by omega, fun _ => ?_⟩
    exact hK many (by rw [if_neg fun z => h1 z.1])
theorem at_ints {xs : List Int} {i : Nat} {x : Int} (h : xs[i]? = some x) : atI (intsD xs) (i : Int) = some (.int x) :=
  atI_ok (by omega) (by unfold intsD; rw [List.getElem?_map, show ((i : Int)).toNat = i by omega, h]; rfl)
theorem intsD_len (xs : List Int) : (intsD xs).length = xs.length := by unfold intsD; rw [List.length_map]
/-- the run of xs from a on, its way told -/
def RunTo (xs : List Int) (a many : Nat) (x way : Int) (upto : Nat) : Prop := 1 ≤ many ∧ many ≤ upto ∧ (∀ j, j < many → xs[a + j]? = some (x + way * j)) ∧ (many < upto → ∀ y, xs[a + many]? = some y → y ≠ x + way * many)
theorem run_step {xs : List Int} {a many i : Nat} {x way y : Int} (h : RunTo xs a many x way (i + 1)) (hy : xs[a + 1 + i]? = some y) : RunTo xs a (if a + 1 + i = a + many ∧ y = x + way * many then many + 1 else many) x way (i + 2) := by
  obtain ⟨h1, h2, h3, h4⟩ := h
  by_cases c : a + 1 + i = a + many ∧ y = x + way * many
  · rw [if_pos c]
    refine ⟨by omega, by omega, fun j hj => ?_, fun z => by omega⟩
    by_cases hjm : j < many
    · exact h3 j hjm
    · have : j = many := by omega
      subst this
      rw [← c.1, hy, c.2]
  · rw [if_neg c]
    refine ⟨h1, by omega, h3, fun z y' hy' => ?_⟩
    by_cases hm : many < i + 1
    · exact h4 hm y' hy'
    · have : many = i + 1 := by omega
      rw [show a + many = a + 1 + i by omega, hy] at hy'
      cases hy'
      exact fun e => c ⟨by omega, e⟩
theorem body_form2 {XP' : XPr} {K bk : Rho → Prop} {rt : D → Rho → Prop} {xs : List Int} {a : Nat} {x way : Int} {R : List Row} {v1 v4 : Option Sl} (hl : xs.length ≤ 100000) (hx : xs[a]? = some x) (hw : way = 1 ∨ way = -1) (hR : R.length ≤ a)
    (hK : ∀ (many : Nat) v4, RunTo xs a many x way (xs.length - a) → K [some (.sh (.lst (intsD xs))), v1, some (.ow (rowsD (R ++ [⟨a, many, x, if 1 < many then way else 1⟩]))), some (.sh (.int ((a : Int) + many))), v4, some (.sh (.int many)), some (.sh (.int way))]) :
    w__law_form_2 T XP' [some (.sh (.lst (intsD xs))), v1, some (.ow (rowsD R)), some (.sh (.int a)), v4, some (.sh (.int 1)), some (.sh (.int way))] { nx := K, rt := rt, bk := bk, ct := K } := by
  have hlt : a < xs.length := (List.getElem?_eq_some_iff.mp hx).1
  simp [w__law_form_2, intsD_len]
  refine ⟨⟨by omega, by omega⟩, ?_⟩
  refine wLoop_range (fun i ρ => ∃ (many : Nat) (v4 : Option Sl), RunTo xs a many x way (i + 1) ∧ ρ = [some (.sh (.lst (intsD xs))), v1, some (.ow (rowsD R)), some (.sh (.int a)), v4, some (.sh (.int many)), some (.sh (.int way))]) ?_ ⟨1, v4, ⟨Nat.le_refl _, Nat.le_refl _, fun j hj => ?_, fun z => by omega⟩, rfl⟩ ?_
  · rintro i ρ K' hi ⟨many, v4, hrun, rfl⟩ hK'
    have hlt2 : a + 1 + i < xs.length := by omega
    have hy := List.getElem?_eq_getElem hlt2
    simp
    refine body_form1 (k := a + 1 + i) hx hy hw (fun many' e => hK' _ ⟨many', _, ?_, rfl⟩) (by congr 3)
    rw [e]
    exact run_step hrun hy
  · have : j = 0 := by omega
    subst this
    simpa using hx
  · rintro ρ ⟨many, v4, hrun, rfl⟩
    have e1 : ((xs.length : Int) - ((a : Int) + 1)).toNat + 1 = xs.length - a := by omega
    rw [e1] at hrun
    have hlen : (rowsD R).length < sizeLine := by unfold rowsD; rw [List.length_map]; exact small6 (by omega)
    have := hK many v4 hrun
    have er : rowsD (R ++ [⟨a, many, x, if 1 < many then way else 1⟩]) = rowsD R ++ [.tup [.int a, .int many, .int x, .int (if 1 < many then way else 1)]] := by unfold rowsD; rw [List.map_append]; rfl
    rw [er] at this
    simp
    refine kIx_lst (at_ints hx) ?_
    refine ⟨fun h1 => ?_, fun h1 => ?_⟩
    · rw [if_pos (by omega)] at this
      exact ⟨hlen, this⟩
    · rw [if_neg (by omega)] at this
      exact ⟨hlen, this⟩
theorem expand_run {xs : List Int} {a many : Nat} {x way : Int} (h : ∀ j, j < many → xs[a + j]? = some (x + way * j)) (w : Int) (hw : 1 < many → w = way) : xs.take (a + many) = xs.take a ++ expand ⟨a, many, x, w⟩ := by
  refine List.ext_getElem? fun i => ?_
  have hlen : many ≠ 0 → a + many ≤ xs.length := fun hm => by
    have := (List.getElem?_eq_some_iff.mp (h (many - 1) (by omega))).1
    omega
  by_cases hm : many = 0
  · subst hm
    simp [expand]
  · have hl := hlen hm
    by_cases hi : i < a
    · rw [List.getElem?_take_of_lt (by omega), List.getElem?_append_left (by rw [List.length_take]; omega), List.getElem?_take_of_lt hi]
    · rw [List.getElem?_append_right (by rw [List.length_take]; omega), List.length_take, Nat.min_eq_left (by omega)]
      unfold expand
      rw [List.getElem?_map]
      by_cases hi2 : i < a + many
      · rw [List.getElem?_take_of_lt hi2, List.getElem?_range (by show i - a < (many : Int).toNat; omega)]
        have := h (i - a) (by omega)
        rw [show a + (i - a) = i by omega] at this
        rw [this]
        show some _ = some _
        congr 2
        by_cases h1 : 1 < many
        · rw [hw h1]
        · have : i - a = 0 := by omega
          rw [this]
          simp
      · rw [List.getElem?_eq_none (by rw [List.length_take]; omega), List.getElem?_eq_none (by rw [List.length_range]; show (many : Int).toNat ≤ i - a; omega)]
        rfl
theorem form_step {xs : List Int} {a many : Nat} {x way : Int} {R : List Row} (F : Form xs a R) (hx : xs[a]? = some x) (hrun : RunTo xs a many x way (xs.length - a)) (hw : way = 1 ∨ way = -1)
    (hway : way = 1 → ∀ y, xs[a + 1]? = some y → y ≠ x - 1) (hway2 : way = -1 → xs[a + 1]? = some (x - 1)) : Form xs (a + many) (R ++ [⟨a, many, x, if 1 < many then way else 1⟩]) := by
  obtain ⟨F1, F2, F3, F4, F5, F6⟩ := F
  obtain ⟨h1, h2, h3, h4⟩ := hrun
  have hlt : a < xs.length := (List.getElem?_eq_some_iff.mp hx).1
  refine ⟨canon_snoc F1 ⟨by show (1 : Int) ≤ many; omega, ?_, fun e => ?_⟩ fun z hz => closed_join F6 hx hz, starts_snoc F2 (by show (a : Int) = _; rw [F4]; omega), ?_, ?_, by rw [List.length_append, List.length_singleton]; omega, ?_⟩
  · show (if 1 < many then way else 1) = 1 ∨ (if 1 < many then way else 1) = -1
    split
    · exact hw
    · exact .inl rfl
  · show (if 1 < many then way else 1) = 1
    have : (many : Int) = 1 := e
    rw [if_neg (by omega)]
  · rw [expandAll_snoc, F3, ← expand_run h3]
    intro hm
    rw [if_pos hm]
  · rw [List.map_append, List.sum_append, F4]
    show (a : Int) + (many + 0) = _
    omega
  · intro z hz y hy
    have ez : z = ⟨a, many, x, if 1 < many then way else 1⟩ := by simpa using hz.symm
    subst ez
    have hya : a + many < xs.length := (List.getElem?_eq_some_iff.mp hy).1
    have ne := h4 (by omega) y hy
    refine ⟨fun e => ?_, fun e => ?_⟩
    · have em : many = 1 := by have : (many : Int) = 1 := e; omega
      subst em
      show y ≠ x + 1 ∧ y ≠ x - 1
      rcases hw with hw | hw
      · have := hway hw y hy
        rw [hw] at ne
        exact ⟨by omega, this⟩
      · have := hway2 hw
        rw [this] at hy
        cases hy
        rw [hw] at ne
        omega
    · have : 1 < many := by
        have : ¬ (many : Int) = 1 := e
        omega
      show y ≠ x + (if 1 < many then way else 1) * many
      rw [if_pos this]
      exact ne
theorem body_form3 {XP' : XPr} {K bk : Rho → Prop} {rt : D → Rho → Prop} {xs : List Int} {a : Nat} {R : List Row} {v1 v4 v5 v6 : Option Sl} (hl : xs.length ≤ 100000) (ha : a ≤ xs.length) (F : Form xs a R)
    (hK : ∀ (a' : Nat) (R' : List Row) (v4 v5 v6 : Option Sl), min (a + 1) xs.length ≤ a' → a' ≤ xs.length → Form xs a' R' → K [some (.sh (.lst (intsD xs))), v1, some (.ow (rowsD R')), some (.sh (.int a')), v4, v5, v6]) :
    w__law_form_3 T XP' [some (.sh (.lst (intsD xs))), v1, some (.ow (rowsD R)), some (.sh (.int a)), v4, v5, v6] { nx := K, rt := rt, bk := bk, ct := K } := by
  simp [w__law_form_3, intsD_len]
  refine ⟨fun hlt => ?_, fun hge => hK a R v4 v5 v6 (by omega) ha F⟩
  have hx := List.getElem?_eq_getElem hlt
  have go : ∀ way : Int, (way = 1 ∨ way = -1) → (way = 1 → ∀ y, xs[a + 1]? = some y → y ≠ xs[a] - 1) → (way = -1 → xs[a + 1]? = some (xs[a] - 1)) →
      w__law_form_2 T XP' [some (.sh (.lst (intsD xs))), v1, some (.ow (rowsD R)), some (.sh (.int a)), v4, some (.sh (.int 1)), some (.sh (.int way))] { nx := K, rt := rt, bk := bk, ct := K } := fun way h1 h2 h3 => by
    refine body_form2 hl hx h1 F.2.2.2.2.1 fun many v4 hrun => ?_
    have := hK (a + many) _ v4 (some (.sh (.int many))) (some (.sh (.int way))) (by have := hrun.1; omega) (by have := hrun.2.1; omega) (form_step F hx hrun h1 h2 h3)
    rw [show ((a + many : Nat) : Int) = (a : Int) + many by omega] at this
    exact this
  refine ⟨fun h1 => ?_, fun h1 => go 1 (.inl rfl) (fun _ y hy => ?_) (fun z => by cases z)⟩
  · have h1' : a + 1 < xs.length := by omega
    have hy := List.getElem?_eq_getElem h1'
    refine kIx_lst (at_ints hy) ?_
    refine kIx_lst (at_ints hx) ?_
    simp
    refine ⟨fun e => go (-1) (.inr rfl) (fun z => by cases z) (fun _ => by rw [hy, e]), fun e => go 1 (.inl rfl) (fun _ y hy' => ?_) (fun z => by cases z)⟩
    rw [hy] at hy'
    cases hy'
    exact e
  · have := (List.getElem?_eq_some_iff.mp hy).1
    omega
theorem L_law_form (h : S__law_form T ds Pv XP) : w__law_form T XP (rho0 ["row", "turn", "found", "at", "k", "many", "way"] ds) (outD Pv) := by
  obtain ⟨xs, rfl, hl, h⟩ := h
  simp [w__law_form, rho0, intsD_len]
  refine ⟨by omega, ?_⟩
  refine wLoop_range (fun i ρ => ∃ (v1 v4 v5 v6 : Option Sl) (a : Nat) (R : List Row), min i xs.length ≤ a ∧ a ≤ xs.length ∧ Form xs a R ∧ ρ = [some (.sh (.lst (intsD xs))), v1, some (.ow (rowsD R)), some (.sh (.int a)), v4, v5, v6]) ?_ ⟨none, none, none, none, 0, [], by omega, by omega, ⟨trivial, trivial, rfl, rfl, Nat.le_refl _, fun z hz => by cases hz⟩, rfl⟩ ?_
  · rintro i ρ K hi ⟨v1, v4, v5, v6, a, R, h1, h2, F, rfl⟩ hK
    simp
    exact body_form3 hl h2 F fun a' R' v4 v5 v6 q1 q2 q3 => hK _ ⟨_, v4, v5, v6, a', R', by omega, q2, q3, rfl⟩
  · rintro ρ ⟨v1, v4, v5, v6, a, R, h1, h2, F, rfl⟩
    have ea : a = xs.length := by omega
    subst ea
    simp
    refine h R F.1 F.2.1 ?_
    rw [F.2.2.1, List.take_length]
end
end DL
end

section
set_option maxRecDepth 100000
set_option maxHeartbeats 1000000
namespace DL
open PySem PySem.Spec L2
/-! ### rows: what they list, their one form -/
theorem expand_len (r : Row) : (expand r).length = r.l.toNat := by unfold expand; rw [List.length_map, List.length_range]
theorem expand_get {r : Row} {k : Nat} (h : k < r.l.toNat) : (expand r)[k]? = some (r.g + r.w * k) := by
  unfold expand
  rw [List.getElem?_map, List.getElem?_range h]
  rfl
theorem expandAll_cons (a : Row) (r : List Row) : expandAll (a :: r) = expand a ++ expandAll r := rfl
theorem expandAll_app (a b : List Row) : expandAll (a ++ b) = expandAll a ++ expandAll b := by unfold expandAll; rw [List.flatMap_append]
theorem joined_expand {a b m : Row} (ha : 1 ≤ a.l) (hb : 1 ≤ b.l) (h : joined a b = some m) : m.s = a.s ∧ m.l = a.l + b.l ∧ expand m = expand a ++ expand b := by
  unfold joined at h
  generalize hw : (if a.l = 1 then (if b.g = a.g + 1 then (1 : Int) else -1) else a.w) = w at h
  split at h
  · rename_i c
    cases h
    refine ⟨rfl, rfl, List.ext_getElem? fun i => ?_⟩
    by_cases hi : i < a.l.toNat
    · rw [List.getElem?_append_left (by rw [expand_len]; exact hi), expand_get hi, expand_get (show i < (a.l + b.l).toNat by omega)]
      show some (a.g + w * i) = _
      by_cases h1 : a.l = 1
      · have : i = 0 := by omega
        subst this
        simp
      · rw [if_neg h1] at hw
        rw [hw]
    · rw [List.getElem?_append_right (by rw [expand_len]; omega), expand_len]
      by_cases hi2 : i < (a.l + b.l).toNat
      · rw [expand_get (show i < (a.l + b.l).toNat from hi2), expand_get (show i - a.l.toNat < b.l.toNat by omega)]
        show some (a.g + w * i) = _
        congr 1
        rw [c.1]
        have e1 : ((i - a.l.toNat : Nat) : Int) = i - a.l := by omega
        rw [e1]
        rcases c.2 with c2 | c2
        · rw [c2, Int.mul_sub]; omega
        · have : (i : Int) = a.l := by omega
          rw [this]; simp
      · rw [List.getElem?_eq_none (by rw [expand_len]; show (a.l + b.l).toNat ≤ i; omega), List.getElem?_eq_none (by rw [expand_len]; omega)]
  · cases h
def len1 (rs : List Row) : Prop := ∀ r ∈ rs, 1 ≤ r.l
theorem canon_good : ∀ {R : List Row}, Canon R → ∀ r ∈ R, good r
  | [], _, r, h => by cases h
  | [a], ha, r, h => by rw [List.mem_singleton.mp h]; exact ha
  | a :: b :: t, ha, r, h => by
    rcases List.mem_cons.mp h with rfl | h
    · exact ha.1
    · exact canon_good ha.2.2 r h
theorem canon_init : ∀ {R : List Row} {z : Row}, Canon (R ++ [z]) → Canon R ∧ ∀ y, R.getLast? = some y → joined y z = none
  | [], z, _ => ⟨trivial, fun y h => by cases h⟩
  | [a], z, h => ⟨h.1, fun y hy => by cases hy; exact h.2.1⟩
  | a :: b :: t, z, h => by
    obtain ⟨h1, h2⟩ := canon_init (R := b :: t) h.2.2
    exact ⟨⟨h.1, h.2.1, h1⟩, fun y hy => h2 y (by rw [List.getLast?_cons_cons] at hy; exact hy)⟩
theorem joined_iff {a b : Row} : joined a b = none ↔ ¬ (b.g = a.g + (if a.l = 1 then (if b.g = a.g + 1 then 1 else -1) else a.w) * a.l ∧ (b.w = (if a.l = 1 then (if b.g = a.g + 1 then 1 else -1) else a.w) ∨ b.l = 1)) := by
  unfold joined
  constructor
  · intro h c
    rw [if_pos c] at h
    cases h
  · intro h
    exact if_neg h
theorem joined_next {y a b m : Row} (h0 : joined y a = none) (ha : 1 ≤ a.l) (hb : 1 ≤ b.l) (h : joined a b = some m) : joined y m = none := by
  have hm := joined_expand ha hb h
  have hg : m.g = a.g ∧ (a.l ≠ 1 → m.w = a.w) := by
    unfold joined at h
    generalize hw : (if a.l = 1 then (if b.g = a.g + 1 then (1 : Int) else -1) else a.w) = w at h
    split at h
    · cases h
      refine ⟨rfl, fun h1 => ?_⟩
      rw [if_neg h1] at hw
      exact hw.symm
    · cases h
  rw [joined_iff] at h0 ⊢
  rw [hg.1]
  refine fun c => h0 ⟨c.1, ?_⟩
  by_cases h1 : a.l = 1
  · exact .inr h1
  · rcases c.2 with c2 | c2
    · exact .inl (by rw [← hg.2 h1]; exact c2)
    · rw [hm.2.1] at c2
      omega
theorem starts_app : ∀ {X Y : List Row} {c : Int}, Starts c (X ++ Y) ↔ Starts c X ∧ Starts (c + (X.map Row.l).sum) Y
  | [], Y, c => by simp [Starts]
  | a :: X, Y, c => by
    rw [List.cons_append]
    show (a.s = c ∧ Starts (c + a.l) (X ++ Y)) ↔ (a.s = c ∧ Starts (c + a.l) X) ∧ _
    rw [starts_app (X := X), List.map_cons, List.sum_cons, Int.add_assoc, and_assoc]
/-- a row pushed behind a canonical list -/
structure FormOf (acc : List Row) (ys : List Int) (n : Int) : Prop where
  c : Canon acc
  s : Starts 0 acc
  e : expandAll acc = ys
  l : (acc.map Row.l).sum = n
theorem push_form {acc : List Row} {ys : List Int} {n : Int} {r : Row} (F : FormOf acc ys n) (hs : r.l ≠ 0 → r.s = n) (hl : 0 ≤ r.l) (ok : r.ok) : FormOf (pushR acc r) (ys ++ expand r) (n + r.l) := by
  unfold pushR
  by_cases h0 : r.l = 0
  · rw [if_pos h0]
    have : expand r = [] := by unfold expand; rw [h0]; rfl
    rw [this, List.append_nil, h0, Int.add_zero]
    exact F
  · rw [if_neg h0]
    have hs := hs h0
    have ef : expand r.fix = expand r := by
      unfold expand Row.fix
      dsimp only
      by_cases h1 : r.l = 1
      · rw [h1]; simp
      · rw [if_neg h1]
    have gf : good r.fix := by
      refine ⟨by show 1 ≤ r.l; omega, Row.fix_ok ok, fun e => ?_⟩
      show (if r.l = 1 then 1 else r.w) = 1
      rw [if_pos (show r.l = 1 from e)]
    have app : (∀ z, acc.getLast? = some z → joined z r.fix = none) → FormOf (acc ++ [r.fix]) (ys ++ expand r) (n + r.l) := fun hj =>
      ⟨canon_snoc F.c gf hj, starts_snoc F.s (by show r.s = _; rw [F.l, hs]; omega), by rw [expandAll_snoc, F.e, ef], by rw [List.map_append, List.sum_append, F.l]; show n + (r.l + 0) = _; omega⟩
    have jf : ∀ z, joined z r.fix = none ↔ joined z r = none := fun z => by
      unfold joined Row.fix
      dsimp only
      by_cases h1 : r.l = 1
      · simp [h1]
      · rw [if_neg h1]
    rcases List.eq_nil_or_concat acc with rfl | ⟨acc0, a, e⟩
    · exact app fun z hz => by cases hz
    · rw [List.concat_eq_append] at e
      subst e
      have eg : (acc0 ++ [a]).getLast? = some a := by simp
      rw [eg]
      dsimp only
      have ga := canon_good F.c a (by simp)
      cases ej : joined a r with
      | none => exact app fun z hz => by rw [eg] at hz; cases hz; exact (jf a).mpr ej
      | some m =>
        obtain ⟨m1, m2, m3⟩ := joined_expand ga.1 (by omega) ej
        obtain ⟨c1, c2⟩ := canon_init F.c
        dsimp only
        rw [List.dropLast_concat]
        have hl0 := F.l
        have hst := (starts_app.mp F.s)
        refine ⟨canon_snoc c1 ⟨by rw [m2]; have := ga.1; omega, joined_ok ga.2.1 ej, fun z => by have := ga.1; omega⟩ fun y hy => joined_next (c2 y hy) ga.1 (by omega) ej, ?_, ?_, ?_⟩
        · rw [starts_app]
          refine ⟨hst.1, ?_, trivial⟩
          rw [m1]
          exact hst.2.1
        · rw [expandAll_snoc, m3, ← List.append_assoc, ← expandAll_snoc, F.e]
        · rw [List.map_append, List.sum_append] at hl0 ⊢
          simp at hl0 ⊢
          omega
theorem foldl_form : ∀ (rs acc : List Row) (ys : List Int) (n : Int), FormOf acc ys n → Starts n rs → (∀ r ∈ rs, 0 ≤ r.l) → okL rs → FormOf (rs.foldl pushR acc) (ys ++ expandAll rs) (n + (rs.map Row.l).sum)
  | [], acc, ys, n, F, _, _, _ => by
    have : expandAll [] = ([] : List Int) := rfl
    rw [this, List.append_nil]
    simpa using F
  | r :: rs, acc, ys, n, F, hs, hl, ok => by
    have F1 := push_form (r := r) F (fun _ => hs.1) (hl r List.mem_cons_self) (okL_cons ok).1
    have := foldl_form rs (pushR acc r) (ys ++ expand r) (n + r.l) F1 hs.2 (fun x hx => hl x (List.mem_cons_of_mem _ hx)) (okL_cons ok).2
    rw [List.foldl_cons, expandAll_cons, List.map_cons, List.sum_cons, ← List.append_assoc, ← Int.add_assoc]
    exact this
theorem inForm_form {rs : List Row} (hs : Starts 0 rs) (hl : ∀ r ∈ rs, 0 ≤ r.l) (ok : okL rs) : FormOf (inForm rs) (expandAll rs) ((rs.map Row.l).sum) := by
  have := foldl_form rs [] [] 0 ⟨trivial, trivial, rfl, rfl⟩ hs hl ok
  rw [List.nil_append, Int.zero_add] at this
  exact this
theorem sum_len {rs : List Row} (hl : ∀ r ∈ rs, 0 ≤ r.l) : ((expandAll rs).length : Int) = (rs.map Row.l).sum := by
  induction rs with
  | nil => rfl
  | cons a r ih =>
    rw [expandAll_cons, List.length_append, expand_len, List.map_cons, List.sum_cons, ← ih fun x hx => hl x (List.mem_cons_of_mem _ hx)]
    have := hl a List.mem_cons_self
    omega
theorem starts_last : ∀ {R : List Row} {c : Int} {z : Row}, Starts c R → R.getLast? = some z → z.s + z.l = c + (R.map Row.l).sum
  | [], c, z, _, h => by cases h
  | [a], c, z, hs, h => by
    cases h
    have := hs.1
    simp
    omega
  | a :: b :: t, c, z, hs, h => by
    rw [List.getLast?_cons_cons] at h
    have := starts_last (R := b :: t) hs.2 h
    rw [List.map_cons, List.sum_cons]
    omega
/-! ### one form alone -/
theorem app_get_l {a : Row} {X : List Int} {k : Nat} (h : k < a.l.toNat) : (expand a ++ X)[k]? = some (a.g + a.w * k) := by
  rw [List.getElem?_append_left (by rw [expand_len]; exact h), expand_get h]
theorem app_get_r {a : Row} {X : List Int} {k : Nat} : (expand a ++ X)[a.l.toNat + k]? = X[k]? := by
  rw [List.getElem?_append_right (by rw [expand_len]; omega), expand_len]
  congr 1
  omega
theorem canon_lt {a a' : Row} {r r' : List Row} (hc : Canon (a :: r)) (ga' : good a') (e : expandAll (a :: r) = expandAll (a' :: r')) (nd : (expandAll (a :: r)).Nodup) (h : a.l < a'.l) : False := by
  have ga := canon_good hc a List.mem_cons_self
  have l1 := ga.1
  have e0 : a.g = a'.g := by
    have h1 := app_get_l (a := a) (X := expandAll r) (k := 0) (by omega)
    have h2 := app_get_l (a := a') (X := expandAll r') (k := 0) (by omega)
    rw [← expandAll_cons, e, expandAll_cons, h2] at h1
    simp at h1
    exact h1.symm
  have hb : (expandAll r)[0]? = some (a'.g + a'.w * a.l) := by
    have h1 := app_get_r (a := a) (X := expandAll r) (k := 0)
    have h2 := app_get_l (a := a') (X := expandAll r') (k := a.l.toNat) (by omega)
    rw [← expandAll_cons, e, expandAll_cons, Nat.add_zero, h2] at h1
    rw [← h1]
    congr 3
    omega
  cases r with
  | nil => cases hb
  | cons b r2 =>
    have gb := canon_good hc b (by simp)
    have lb := gb.1
    have hbg : b.g = a'.g + a'.w * a.l := by
      rw [expandAll_cons, app_get_l (by omega)] at hb
      simpa using hb
    have hj : joined a b = none := hc.2.1
    unfold joined at hj
    generalize hw : (if a.l = 1 then (if b.g = a.g + 1 then (1 : Int) else -1) else a.w) = w at hj
    have hwe : b.g = a.g + w * a.l ∧ (w = 1 ∨ w = -1) := by
      by_cases h1 : a.l = 1
      · rw [if_pos h1] at hw
        rw [h1, Int.mul_one] at hbg ⊢
        rcases ga'.2.1 with q | q
        · rw [q] at hbg
          rw [if_pos (by omega)] at hw
          exact ⟨by omega, .inl hw.symm⟩
        · rw [q] at hbg
          rw [if_neg (by omega)] at hw
          exact ⟨by omega, .inr hw.symm⟩
      · rw [if_neg h1] at hw
        have h3 := app_get_l (a := a) (X := expandAll (b :: r2)) (k := 1) (by omega)
        have h4 := app_get_l (a := a') (X := expandAll r') (k := 1) (by omega)
        rw [← expandAll_cons, e, expandAll_cons, h4] at h3
        simp at h3
        have : a.w = a'.w := by omega
        refine ⟨by rw [← hw, this, e0]; exact hbg, ?_⟩
        rw [← hw]
        exact ga.2.1
    have nb : ¬ (b.w = w ∨ b.l = 1) := fun z => by
      rw [if_pos ⟨hwe.1, z⟩] at hj
      cases hj
    have bw : b.w = -w := by
      rcases gb.2.1 with q | q <;> rcases hwe.2 with q2 | q2
      · exact absurd (.inl (q.trans q2.symm)) nb
      · omega
      · omega
      · exact absurd (.inl (q.trans q2.symm)) nb
    have bl : 2 ≤ b.l := by
      have : b.l ≠ 1 := fun z => nb (.inr z)
      omega
    have i2 : (expandAll (a :: b :: r2))[a.l.toNat + 1]? = some (b.g - w) := by
      rw [expandAll_cons, app_get_r, expandAll_cons, app_get_l (by omega), bw]
      congr 1
      simp
      omega
    have i1 : (expandAll (a :: b :: r2))[a.l.toNat - 1]? = some (b.g - w) := by
      rw [expandAll_cons, app_get_l (by omega), hwe.1]
      have e1 : ((a.l.toNat - 1 : Nat) : Int) = a.l - 1 := by omega
      rw [e1]
      congr 1
      by_cases h1 : a.l = 1
      · rw [h1]; simp
      · rw [if_neg h1] at hw
        rw [← hw, Int.mul_sub]
        omega
    have := nd_inj nd i1 i2
    omega
theorem canon_unique : ∀ {R R' : List Row} {c : Int}, Canon R → Canon R' → Starts c R → Starts c R' → expandAll R = expandAll R' → (expandAll R).Nodup → R = R'
  | [], [], _, _, _, _, _, _, _ => rfl
  | [], a' :: r', c, _, hc', _, _, e, _ => by
    have := (canon_good hc' a' List.mem_cons_self).1
    have h := congrArg List.length e
    rw [expandAll_cons, List.length_append, expand_len] at h
    have : (expandAll []).length = 0 := rfl
    omega
  | a :: r, [], c, hc, _, _, _, e, _ => by
    have := (canon_good hc a List.mem_cons_self).1
    have h := congrArg List.length e
    rw [expandAll_cons, List.length_append, expand_len] at h
    have : (expandAll []).length = 0 := rfl
    omega
  | a :: r, a' :: r', c, hc, hc', hs, hs', e, nd => by
    have ga := canon_good hc a List.mem_cons_self
    have ga' := canon_good hc' a' List.mem_cons_self
    have l1 := ga.1
    have l1' := ga'.1
    have el : a.l = a'.l := by
      rcases Int.lt_trichotomy a.l a'.l with h | h | h
      · exact (canon_lt hc ga' e nd h).elim
      · exact h
      · exact (canon_lt hc' ga e.symm (by rw [← e]; exact nd) h).elim
    have eg : a.g = a'.g := by
      have h1 := app_get_l (a := a) (X := expandAll r) (k := 0) (by omega)
      have h2 := app_get_l (a := a') (X := expandAll r') (k := 0) (by omega)
      rw [← expandAll_cons, e, expandAll_cons, h2] at h1
      simp at h1
      exact h1.symm
    have ew : a.w = a'.w := by
      by_cases h1 : a.l = 1
      · rw [ga.2.2 h1, ga'.2.2 (by omega)]
      · have h3 := app_get_l (a := a) (X := expandAll r) (k := 1) (by omega)
        have h4 := app_get_l (a := a') (X := expandAll r') (k := 1) (by omega)
        rw [← expandAll_cons, e, expandAll_cons, h4] at h3
        simp at h3
        omega
    have ea : a = a' := by
      have h1 := hs.1
      have h2 := hs'.1
      cases a; cases a'
      simp only at el eg ew h1 h2
      subst el; subst eg; subst ew; subst h1; subst h2
      rfl
    subst ea
    rw [expandAll_cons, expandAll_cons, List.append_cancel_left_eq] at e
    have hcr : ∀ {r : List Row}, Canon (a :: r) → Canon r := fun {r} h => by
      cases r with
      | nil => trivial
      | cons b t => exact h.2.2
    rw [canon_unique (hcr hc) (hcr hc') hs.2 hs'.2 e (by rw [expandAll_cons] at nd; exact (List.nodup_append.mp nd).2.1)]
end DL
end

section
set_option maxRecDepth 100000
set_option maxHeartbeats 1000000
namespace DL
open PySem PySem.Spec L2
/-! ### products -/
def iv (lo hi : Int) : List Int := (List.range (hi - lo).toNat).map fun (k : Nat) => lo + k
theorem iv_nil {lo hi : Int} (h : hi ≤ lo) : iv lo hi = [] := by
  unfold iv
  rw [show (hi - lo).toNat = 0 by omega]
  rfl
theorem iv_split {lo mid hi : Int} (h1 : lo ≤ mid) (h2 : mid ≤ hi) : iv lo hi = iv lo mid ++ iv mid hi := by
  unfold iv
  rw [show (hi - lo).toNat = (mid - lo).toNat + (hi - mid).toNat by omega, List.range_add, List.map_append, List.map_map]
  congr 1
  refine List.map_congr_left fun k _ => ?_
  show lo + (((mid - lo).toNat + k : Nat) : Int) = mid + k
  omega
theorem iv_mem {lo hi p : Int} : p ∈ iv lo hi ↔ lo ≤ p ∧ p < hi := by
  unfold iv
  rw [List.mem_map]
  constructor
  · rintro ⟨k, hk, rfl⟩
    rw [List.mem_range] at hk
    omega
  · intro h
    exact ⟨(p - lo).toNat, List.mem_range.mpr (by omega), by omega⟩
theorem iv_len (lo hi : Int) : (iv lo hi).length = (hi - lo).toNat := by unfold iv; rw [List.length_map, List.length_range]
theorem iv_get {lo hi : Int} {k : Nat} (h : k < (hi - lo).toNat) : (iv lo hi)[k]? = some (lo + k) := by
  unfold iv
  rw [List.getElem?_map, List.getElem?_range h]
  rfl
/-- where row o leads from p -/
def Row.at (o : Row) (p : Int) : Int := o.g + o.w * (p - o.s)
theorem expand_iv (o : Row) : expand o = (iv o.s (o.s + o.l)).map o.at := by
  unfold expand iv Row.at
  rw [List.map_map, show (o.s + o.l - o.s).toNat = o.l.toNat by omega]
  refine List.map_congr_left fun k _ => ?_
  show o.g + o.w * k = o.g + o.w * (o.s + k - o.s)
  rw [show o.s + (k : Int) - o.s = k by omega]
/-- where the rows lead from p -/
def atR : List Row → Int → Int
  | [], _ => 0
  | o :: r, p => if p < o.s + o.l then o.at p else atR r p
theorem expandAll_at : ∀ {a : List Row} {c : Int}, Starts c a → (∀ o ∈ a, 0 ≤ o.l) → expandAll a = (iv c (c + (a.map Row.l).sum)).map (atR a)
  | [], c, _, _ => by
    rw [show c + (([] : List Row).map Row.l).sum = c by simp, iv_nil (Int.le_refl _)]
    rfl
  | o :: a, c, hs, hl => by
    have h0 := hl o List.mem_cons_self
    have hl' : ∀ o ∈ a, 0 ≤ o.l := fun x hx => hl x (List.mem_cons_of_mem _ hx)
    have hsum : 0 ≤ (a.map Row.l).sum := by rw [← sum_len hl']; omega
    rw [expandAll_cons, List.map_cons, List.sum_cons, ← Int.add_assoc, iv_split (lo := c) (mid := c + o.l) (by omega) (by omega), List.map_append]
    congr 1
    · rw [expand_iv, hs.1]
      refine List.map_congr_left fun p hp => ?_
      rw [iv_mem] at hp
      show _ = if p < o.s + o.l then _ else _
      rw [if_pos (by rw [hs.1]; exact hp.2)]
    · rw [expandAll_at hs.2 hl']
      refine List.map_congr_left fun p hp => ?_
      rw [iv_mem] at hp
      show _ = if p < o.s + o.l then _ else _
      rw [if_neg (by rw [hs.1]; omega)]
theorem map_at_tail {o : Row} {a : List Row} {c lo hi : Int} (hs : o.s = c) (h : c + o.l ≤ lo) : (iv lo hi).map (atR (o :: a)) = (iv lo hi).map (atR a) := List.map_congr_left fun p hp => by
  rw [iv_mem] at hp
  show (if p < o.s + o.l then _ else _) = _
  rw [if_neg (by omega)]
theorem map_at_head {o : Row} {a : List Row} {c lo hi : Int} (hs : o.s = c) (h : hi ≤ c + o.l) : (iv lo hi).map (atR (o :: a)) = (iv lo hi).map o.at := List.map_congr_left fun p hp => by
  rw [iv_mem] at hp
  show (if p < o.s + o.l then _ else _) = _
  rw [if_pos (by omega)]
/-- the places that row r asks for: low .. low + l -/
def Row.low (r : Row) : Int := if 0 < r.w then r.g else r.g - r.l + 1
def imax (a b : Int) : Int := if a < b then b else a
def imin (a b : Int) : Int := if b < a then b else a
theorem imax_cases (a b : Int) : (imax a b = b ∧ a < b) ∨ (imax a b = a ∧ b ≤ a) := by unfold imax; split <;> omega
theorem imin_cases (a b : Int) : (imin a b = b ∧ b < a) ∨ (imin a b = a ∧ a ≤ b) := by unfold imin; split <;> omega
theorem piece_none {r o : Row} (h : imin (r.low + r.l) (o.s + o.l) ≤ imax r.low o.s) : piece r o = none := by
  unfold piece
  dsimp only
  refine if_neg fun z => ?_
  unfold imin imax Row.low at h
  omega
theorem piece_pos {r o : Row} (hw : r.w = 1) (h : imax r.low o.s < imin (r.low + r.l) (o.s + o.l)) : piece r o = some ⟨r.s + (imax r.low o.s - r.g), imin (r.low + r.l) (o.s + o.l) - imax r.low o.s, o.at (imax r.low o.s), o.w⟩ := by
  have hp : 0 < r.w := by omega
  unfold piece
  unfold imin imax Row.low at *
  simp only [hp, if_true] at h ⊢
  rw [if_pos h]
  rfl
theorem piece_neg {r o : Row} (hw : r.w = -1) (h : imax r.low o.s < imin (r.low + r.l) (o.s + o.l)) : piece r o = some ⟨r.s + (r.g - imin (r.low + r.l) (o.s + o.l) + 1), imin (r.low + r.l) (o.s + o.l) - imax r.low o.s, o.at (imin (r.low + r.l) (o.s + o.l) - 1), -o.w⟩ := by
  have hp : ¬ 0 < r.w := by omega
  unfold piece
  unfold imin imax Row.low at *
  simp only [hp, if_false] at h ⊢
  rw [if_pos h]
  rfl
theorem expand_pos {s lo hi : Int} {o : Row} : expand ⟨s, hi - lo, o.at lo, o.w⟩ = (iv lo hi).map o.at := by
  unfold expand iv
  rw [List.map_map]
  refine List.map_congr_left fun k _ => ?_
  show o.at lo + o.w * k = o.at (lo + k)
  unfold Row.at
  rw [show lo + (k : Int) - o.s = (lo - o.s) + k by omega, Int.mul_add, Int.add_assoc]
theorem rev_range {α : Type} (n : Nat) (f : Nat → α) : ((List.range n).map f).reverse = (List.range n).map fun k => f (n - 1 - k) := by
  refine List.ext_getElem? fun i => ?_
  by_cases hi : i < n
  · rw [List.getElem?_reverse (by simpa using hi), List.length_map, List.length_range, List.getElem?_map, List.getElem?_map, List.getElem?_range hi, List.getElem?_range (by omega)]
    rfl
  · rw [List.getElem?_eq_none (by simpa using hi), List.getElem?_eq_none (by simpa using hi)]
theorem expand_neg {s lo hi : Int} {o : Row} : expand ⟨s, hi - lo, o.at (hi - 1), -o.w⟩ = ((iv lo hi).map o.at).reverse := by
  unfold expand iv
  rw [List.map_map, rev_range]
  refine List.map_congr_left fun k hk => ?_
  have hk : k < (hi - lo).toNat := List.mem_range.mp hk
  show o.at (hi - 1) + -o.w * k = o.at (lo + (((hi - lo).toNat - 1 - k : Nat) : Int))
  unfold Row.at
  have e : o.w * ((hi - 1 - o.s) - k) = o.w * (hi - 1 - o.s) - o.w * k := Int.mul_sub _ _ _
  rw [show lo + (((hi - lo).toNat - 1 - k : Nat) : Int) - o.s = (hi - 1 - o.s) - k by omega, e, Int.neg_mul, Int.add_assoc]
  congr 1
theorem iv_step {lo hi c c' t : Int} (h1 : c ≤ c') (h2 : c' ≤ t) : iv (imax lo c) (imin hi t) = iv (imax lo c) (imin hi c') ++ iv (imax lo c') (imin hi t) := by
  unfold imax imin
  by_cases a1 : lo < c
  · have a2 : lo < c' := by omega
    rw [if_pos a1, if_pos a2]
    by_cases b1 : c' < hi
    · rw [if_pos b1, iv_split (lo := c) (mid := c') h1 (by split <;> omega)]
    · rw [if_neg b1, if_neg (by omega), iv_nil (lo := c') (by omega), List.append_nil]
  · rw [if_neg a1]
    by_cases a2 : lo < c'
    · rw [if_pos a2]
      by_cases b1 : c' < hi
      · rw [if_pos b1, iv_split (lo := lo) (mid := c') (by omega) (by split <;> omega)]
      · rw [if_neg b1, if_neg (by omega), iv_nil (lo := c') (by omega), List.append_nil]
    · rw [if_neg a2, iv_nil (lo := lo) (hi := if c' < hi then c' else hi) (by split <;> omega), List.nil_append]
def optL : Option Row → List Row
  | none => []
  | some r => [r]
theorem fm_cons (r o : Row) (a : List Row) : (o :: a).filterMap (piece r) = optL (piece r o) ++ a.filterMap (piece r) := by
  rw [List.filterMap_cons]
  cases piece r o <;> rfl
theorem piece_exp_pos {r o : Row} (hw : r.w = 1) : expandAll (optL (piece r o)) = (iv (imax r.low o.s) (imin (r.low + r.l) (o.s + o.l))).map o.at := by
  by_cases h : imax r.low o.s < imin (r.low + r.l) (o.s + o.l)
  · rw [piece_pos hw h]
    show expand _ ++ [] = _
    rw [List.append_nil, expand_pos]
  · rw [piece_none (by omega), iv_nil (by omega)]
    rfl
theorem piece_exp_neg {r o : Row} (hw : r.w = -1) : expandAll (optL (piece r o)) = ((iv (imax r.low o.s) (imin (r.low + r.l) (o.s + o.l))).map o.at).reverse := by
  by_cases h : imax r.low o.s < imin (r.low + r.l) (o.s + o.l)
  · rw [piece_neg hw h]
    show expand _ ++ [] = _
    rw [List.append_nil, expand_neg]
  · rw [piece_none (by omega), iv_nil (by omega)]
    rfl
theorem pieces_exp_pos {r : Row} (hw : r.w = 1) : ∀ {a : List Row} {c : Int}, Starts c a → (∀ o ∈ a, 0 ≤ o.l) → expandAll (a.filterMap (piece r)) = (iv (imax r.low c) (imin (r.low + r.l) (c + (a.map Row.l).sum))).map (atR a)
  | [], c, _, _ => by
    rw [iv_nil (by unfold imax imin; simp; split <;> split <;> omega)]
    rfl
  | o :: a, c, hs, hl => by
    have h0 := hl o List.mem_cons_self
    have hl' : ∀ o ∈ a, 0 ≤ o.l := fun x hx => hl x (List.mem_cons_of_mem _ hx)
    have hsum : 0 ≤ (a.map Row.l).sum := by rw [← sum_len hl']; omega
    rw [fm_cons, expandAll_app, piece_exp_pos hw, pieces_exp_pos hw hs.2 hl', List.map_cons, List.sum_cons, ← Int.add_assoc, iv_step (c := c) (c' := c + o.l) (by omega) (by omega), List.map_append, hs.1]
    congr 1
    · exact (map_at_head hs.1 (by unfold imin; split <;> omega)).symm
    · exact (map_at_tail hs.1 (by unfold imax; split <;> omega)).symm
theorem pieces_exp_neg {r : Row} (hw : r.w = -1) : ∀ {a : List Row} {c : Int}, Starts c a → (∀ o ∈ a, 0 ≤ o.l) → expandAll (a.reverse.filterMap (piece r)) = ((iv (imax r.low c) (imin (r.low + r.l) (c + (a.map Row.l).sum))).map (atR a)).reverse
  | [], c, _, _ => by
    rw [iv_nil (by unfold imax imin; simp; split <;> split <;> omega)]
    rfl
  | o :: a, c, hs, hl => by
    have h0 := hl o List.mem_cons_self
    have hl' : ∀ o ∈ a, 0 ≤ o.l := fun x hx => hl x (List.mem_cons_of_mem _ hx)
    have hsum : 0 ≤ (a.map Row.l).sum := by rw [← sum_len hl']; omega
    have e1 : [o].filterMap (piece r) = optL (piece r o) := by rw [fm_cons]; simp
    rw [List.reverse_cons, List.filterMap_append, e1, expandAll_app, piece_exp_neg hw, pieces_exp_neg hw hs.2 hl', List.map_cons, List.sum_cons, ← Int.add_assoc, iv_step (c := c) (c' := c + o.l) (by omega) (by omega), List.map_append, List.reverse_append, hs.1]
    congr 2
    · exact (map_at_tail hs.1 (by unfold imax; split <;> omega)).symm
    · exact (map_at_head hs.1 (by unfold imin; split <;> omega)).symm
theorem iv_rev_row {r : Row} (hw : r.w = -1) : expand r = (iv r.low (r.low + r.l)).reverse := by
  unfold expand iv Row.low
  rw [if_neg (by omega), rev_range, show (r.g - r.l + 1 + r.l - (r.g - r.l + 1)).toNat = r.l.toNat by omega]
  refine List.map_congr_left fun k hk => ?_
  rw [List.mem_range] at hk
  show r.g + r.w * k = r.g - r.l + 1 + ((r.l.toNat - 1 - k : Nat) : Int)
  rw [hw]
  omega
theorem iv_row {r : Row} (hw : r.w = 1) : expand r = iv r.low (r.low + r.l) := by
  unfold expand iv Row.low
  rw [if_pos (by omega), show (r.g + r.l - r.g).toNat = r.l.toNat by omega]
  refine List.map_congr_left fun k hk => ?_
  show r.g + r.w * k = r.g + k
  rw [hw]
  omega
/-- the pieces of one row list what the rows lead to -/
theorem pieces_exp {r : Row} {a : List Row} {n : Int} (ok : r.ok) (hs : Starts 0 a) (hl : ∀ o ∈ a, 0 ≤ o.l) (hn : (a.map Row.l).sum = n) (h0 : 0 ≤ r.low) (h1 : r.low + r.l ≤ n) : expandAll (pieces r a) = (expand r).map (atR a) := by
  unfold pieces
  have e1 : imax r.low 0 = r.low := by unfold imax; rw [if_neg (by omega)]
  have e2 : imin (r.low + r.l) (0 + n) = r.low + r.l := by unfold imin; rw [if_neg (by omega)]
  rcases ok with hw | hw
  · rw [if_pos (by omega), pieces_exp_pos hw hs hl, hn, e1, e2, iv_row hw]
  · rw [if_neg (by omega), pieces_exp_neg hw hs hl, hn, e1, e2, iv_rev_row hw, List.map_reverse]
theorem piece_len1 {r o p : Row} (ok : r.ok) (h : piece r o = some p) : 1 ≤ p.l := by
  by_cases hc : imax r.low o.s < imin (r.low + r.l) (o.s + o.l)
  · rcases ok with hw | hw
    · rw [piece_pos hw hc] at h; cases h; show 1 ≤ _ - _; omega
    · rw [piece_neg hw hc] at h; cases h; show 1 ≤ _ - _; omega
  · rw [piece_none (by omega)] at h
    cases h
theorem pieces_len1 {r : Row} {a : List Row} (ok : r.ok) : len1 (pieces r a) := fun p hp => by
  unfold pieces at hp
  obtain ⟨o, _, e⟩ := List.mem_filterMap.mp hp
  exact piece_len1 ok e
theorem fm_len1 {r : Row} {a : List Row} (ok : r.ok) : ∀ p ∈ a.filterMap (piece r), 0 ≤ p.l := fun p hp => by
  obtain ⟨o, _, e⟩ := List.mem_filterMap.mp hp
  have := piece_len1 ok e
  omega
theorem starts_opt {r o : Row} {c : Int} (h : ∀ p, piece r o = some p → p.s = c) : Starts c (optL (piece r o)) := by
  cases e : piece r o with
  | none => trivial
  | some p => exact ⟨h p e, trivial⟩
theorem fm_nil {r : Row} {a : List Row} (ok : r.ok) (q : expandAll (a.filterMap (piece r)) = []) : a.filterMap (piece r) = [] := by
  cases ef : a.filterMap (piece r) with
  | nil => rfl
  | cons p t =>
    obtain ⟨o, _, ep⟩ := List.mem_filterMap.mp (show p ∈ a.filterMap (piece r) by rw [ef]; exact List.mem_cons_self)
    have h1 := piece_len1 ok ep
    rw [ef, expandAll_cons] at q
    have := congrArg List.length q
    rw [List.length_append, expand_len] at this
    simp at this
    omega
theorem starts_pos {r : Row} (hw : r.w = 1) : ∀ {a : List Row} {c : Int}, Starts c a → len1 a → Starts (r.s + (imax r.low c - r.g)) (a.filterMap (piece r))
  | [], c, _, _ => trivial
  | o :: a, c, hs, hl => by
    have h0 := hl o List.mem_cons_self
    have hl1 : len1 a := fun x hx => hl x (List.mem_cons_of_mem _ hx)
    have hl' : ∀ o ∈ a, 0 ≤ o.l := fun x hx => by have := hl1 x hx; omega
    have ih := starts_pos hw hs.2 hl1
    have hos := hs.1
    have nilR : r.low + r.l ≤ imax r.low (c + o.l) → a.filterMap (piece r) = [] := fun q => fm_nil (.inl hw) (by
      rw [pieces_exp_pos hw hs.2 hl', iv_nil (by have := imin_cases (r.low + r.l) (c + o.l + (a.map Row.l).sum); omega)]
      rfl)
    rw [fm_cons]
    have c1 := imax_cases r.low c
    have c2 := imax_cases r.low (c + o.l)
    have c3 := imin_cases (r.low + r.l) (c + o.l)
    by_cases hc : imax r.low o.s < imin (r.low + r.l) (o.s + o.l)
    · rw [piece_pos hw hc]
      rw [hos] at hc ⊢
      refine ⟨rfl, ?_⟩
      show Starts (_ + (imin (r.low + r.l) (c + o.l) - imax r.low c)) (a.filterMap (piece r))
      by_cases hcc : c + o.l < r.low + r.l
      · rw [show r.s + (imax r.low c - r.g) + (imin (r.low + r.l) (c + o.l) - imax r.low c) = r.s + (imax r.low (c + o.l) - r.g) by omega]
        exact ih
      · rw [nilR (by omega)]
        trivial
    · rw [piece_none (by omega)]
      rw [hos] at hc
      show Starts _ (a.filterMap (piece r))
      by_cases hcc : c + o.l ≤ r.low
      · rw [show imax r.low c = imax r.low (c + o.l) by omega]
        exact ih
      · rw [nilR (by omega)]
        trivial
theorem sum_fm {r : Row} {a : List Row} (ok : r.ok) : ((a.filterMap (piece r)).map Row.l).sum = (expandAll (a.filterMap (piece r))).length := (sum_len (fm_len1 ok)).symm
theorem starts_neg {r : Row} (hw : r.w = -1) : ∀ {a : List Row} {c : Int}, Starts c a → len1 a → Starts (r.s + (r.g - imin (r.low + r.l) (c + (a.map Row.l).sum) + 1)) (a.reverse.filterMap (piece r))
  | [], c, _, _ => trivial
  | o :: a, c, hs, hl => by
    have h0 := hl o List.mem_cons_self
    have hl1 : len1 a := fun x hx => hl x (List.mem_cons_of_mem _ hx)
    have hl' : ∀ o ∈ a, 0 ≤ o.l := fun x hx => by have := hl1 x hx; omega
    have hsum : 0 ≤ (a.map Row.l).sum := by rw [← sum_len hl']; omega
    have ih := starts_neg hw hs.2 hl1
    have hos := hs.1
    have e1 : [o].filterMap (piece r) = optL (piece r o) := by rw [fm_cons]; simp
    rw [List.reverse_cons, List.filterMap_append, e1, starts_app, List.map_cons, List.sum_cons, show c + (o.l + (a.map Row.l).sum) = c + o.l + (a.map Row.l).sum by omega]
    refine ⟨ih, ?_⟩
    rw [sum_fm (.inr hw), pieces_exp_neg hw hs.2 hl', List.length_reverse, List.length_map, iv_len]
    have c1 := imax_cases r.low c
    have c2 := imax_cases r.low (c + o.l)
    have c3 := imin_cases (r.low + r.l) (c + o.l)
    have c4 := imin_cases (r.low + r.l) (c + o.l + (a.map Row.l).sum)
    refine starts_opt fun p hp => ?_
    by_cases hc : imax r.low o.s < imin (r.low + r.l) (o.s + o.l)
    · rw [piece_neg hw hc] at hp
      rw [hos] at hc hp
      cases hp
      show r.s + (r.g - imin (r.low + r.l) (c + o.l) + 1) = _
      omega
    · rw [piece_none (by omega)] at hp
      cases hp
theorem starts_pieces {r : Row} {a : List Row} {n : Int} (ok : r.ok) (hs : Starts 0 a) (hl : len1 a) (hn : (a.map Row.l).sum = n) (h0 : 0 ≤ r.low) (h1 : r.low + r.l ≤ n) : Starts r.s (pieces r a) := by
  unfold pieces
  have c1 := imax_cases r.low 0
  have c3 := imin_cases (r.low + r.l) (0 + n)
  rcases ok with hw | hw
  · have := starts_pos hw hs hl
    have e : r.low = r.g := by unfold Row.low; rw [if_pos (by omega)]
    rw [if_pos (by omega)]
    rw [show r.s + (imax r.low 0 - r.g) = r.s by omega] at this
    exact this
  · have := starts_neg hw hs hl
    have e : r.low = r.g - r.l + 1 := by unfold Row.low; rw [if_neg (by omega)]
    rw [if_neg (by omega)]
    rw [hn, show r.s + (r.g - imin (r.low + r.l) (0 + n) + 1) = r.s by omega] at this
    exact this
/-- rows within 0 .. n -/
def Within0 (n : Int) (rs : List Row) : Prop := ∀ r ∈ rs, 0 ≤ r.low ∧ r.low + r.l ≤ n
theorem flat_exp {a : List Row} {n : Int} (hs : Starts 0 a) (hl : len1 a) (hn : (a.map Row.l).sum = n) : ∀ {b : List Row} {c : Int}, okL b → len1 b → Within0 n b → Starts c b →
    expandAll (b.flatMap fun r => pieces r a) = (expandAll b).map (atR a) ∧ Starts c (b.flatMap fun r => pieces r a)
  | [], c, _, _, _, _ => ⟨rfl, trivial⟩
  | r :: b, c, ok, hb, hw, hsb => by
    have hr := hw r List.mem_cons_self
    have okr := (okL_cons ok).1
    have hl' : ∀ o ∈ a, 0 ≤ o.l := fun x hx => by have := hl x hx; omega
    obtain ⟨h1, h2⟩ := flat_exp hs hl hn (b := b) (okL_cons ok).2 (fun x hx => hb x (List.mem_cons_of_mem _ hx)) (fun x hx => hw x (List.mem_cons_of_mem _ hx)) hsb.2
    have he := pieces_exp okr hs hl' hn hr.1 hr.2
    rw [List.flatMap_cons, expandAll_app, expandAll_cons, List.map_append, h1, he]
    refine ⟨rfl, ?_⟩
    rw [starts_app]
    refine ⟨by rw [← hsb.1]; exact starts_pieces okr hs hl hn hr.1 hr.2, ?_⟩
    have hsum : ((pieces r a).map Row.l).sum = r.l := by
      rw [← sum_len (fun x hx => by have := pieces_len1 okr x hx; omega), he, List.length_map, expand_len]
      have := hb r List.mem_cons_self
      omega
    rw [hsum]
    exact h2
end DL
end

section
set_option maxRecDepth 100000
set_option maxHeartbeats 1000000
namespace DL
open PySem PySem.Spec L2
/-! ### the rows of a list -/
theorem singles_exp : ∀ (xs : List Int) (n : Nat), expandAll (singles n xs) = xs ∧ Starts n (singles n xs) ∧ ((singles n xs).map Row.l).sum = xs.length
  | [], _ => ⟨rfl, trivial, rfl⟩
  | x :: xs, n => by
    obtain ⟨h1, h2, h3⟩ := singles_exp xs (n + 1)
    refine ⟨?_, ⟨rfl, h2⟩, ?_⟩
    · show expand ⟨n, 1, x, 1⟩ ++ expandAll (singles (n + 1) xs) = _
      rw [h1]
      simp [expand]
    · show 1 + ((singles (n + 1) xs).map Row.l).sum = _
      rw [h3, List.length_cons]
      omega
theorem singles_len1 : ∀ (xs : List Int) (n : Nat), len1 (singles n xs)
  | [], _ => fun _ h => by cases h
  | x :: xs, n => fun r h => by
    rcases List.mem_cons.mp h with rfl | h
    · exact Int.le_refl _
    · exact singles_len1 xs (n + 1) r h
def runsOf (xs : List Int) : List Row := inForm (singles 0 xs)
theorem runsOf_form (xs : List Int) : FormOf (runsOf xs) xs xs.length := by
  obtain ⟨h1, h2, h3⟩ := singles_exp xs 0
  have := inForm_form h2 (fun r hr => by have := singles_len1 xs 0 r hr; omega) (singles_ok xs 0)
  rw [h1, h3] at this
  exact this
theorem FormOf.len1 {a : List Row} {ys : List Int} {n : Int} (F : FormOf a ys n) : len1 a := fun r hr => (canon_good F.c r hr).1
theorem FormOf.ok {a : List Row} {ys : List Int} {n : Int} (F : FormOf a ys n) : okL a := fun r hr => (canon_good F.c r hr).2.1
theorem FormOf.last {a : List Row} {ys : List Int} {n : Int} (F : FormOf a ys n) (h : 0 < n) : ∃ z, a.getLast? = some z ∧ z.s + z.l = n := by
  cases e : a.getLast? with
  | none =>
    have : a = [] := List.getLast?_eq_none_iff.mp e
    subst this
    have := F.l
    simp at this
    omega
  | some z => exact ⟨z, rfl, by rw [starts_last F.s e, F.l]; omega⟩
theorem len_le_sum : ∀ {a : List Row}, len1 a → (a.length : Int) ≤ (a.map Row.l).sum
  | [], _ => by simp
  | r :: a, h => by
    have := h r List.mem_cons_self
    have := len_le_sum (a := a) fun x hx => h x (List.mem_cons_of_mem _ hx)
    rw [List.map_cons, List.sum_cons, List.length_cons]
    omega
theorem FormOf.small {a : List Row} {ys : List Int} {n : Int} (F : FormOf a ys n) : (a.length : Int) ≤ n := by rw [← F.l]; exact len_le_sum F.len1
theorem FormOf.uniq {a b : List Row} {ys : List Int} {n m : Int} (F : FormOf a ys n) (G : FormOf b ys m) (nd : ys.Nodup) : a = b := canon_unique F.c G.c F.s G.s (F.e.trans G.e.symm) (by rw [F.e]; exact nd)
theorem FormOf.at {a : List Row} {ys : List Int} {n : Int} (F : FormOf a ys n) : ys = (iv 0 n).map (atR a) := by
  have := expandAll_at F.s (fun o ho => by have := F.len1 o ho; omega)
  rw [F.e, F.l, Int.zero_add] at this
  exact this
theorem FormOf.get {a : List Row} {ys : List Int} {n : Int} (F : FormOf a ys n) {p : Int} (h0 : 0 ≤ p) (h1 : p < n) : ys[p.toNat]? = some (atR a p) := by
  rw [F.at, List.getElem?_map, iv_get (by omega)]
  show some (atR a (0 + (p.toNat : Nat))) = _
  congr 2
  omega
/-- a rearrangement of 0 .. n - 1 -/
structure Perm0 (xs : List Int) (n : Nat) : Prop where
  l : xs.length = n
  nd : xs.Nodup
  b : ∀ x ∈ xs, 0 ≤ x ∧ x < n
theorem rangeI_iv (n : Nat) : rangeI n = iv 0 n := by
  unfold rangeI iv
  rw [show ((n : Int) - 0).toNat = n by omega]
  refine List.map_congr_left fun k _ => ?_
  omega
theorem iv_nodup (lo hi : Int) : (iv lo hi).Nodup := by
  unfold iv
  refine List.pairwise_map.mpr ?_
  exact List.Pairwise.imp (fun h => by omega) (List.nodup_range (n := (hi - lo).toNat))
theorem perm0_of {xs : List Int} {n : Nat} (p : xs.Perm (rangeI n)) : Perm0 xs n := by
  rw [rangeI_iv] at p
  refine ⟨by rw [p.length_eq, iv_len]; omega, p.nodup_iff.mpr (iv_nodup _ _), fun x hx => ?_⟩
  have := p.mem_iff.mp hx
  rw [iv_mem] at this
  exact this
theorem mem_expandAll {rs : List Row} {r : Row} (h : r ∈ rs) {x : Int} (hx : x ∈ expand r) : x ∈ expandAll rs := List.mem_flatMap.mpr ⟨r, h, hx⟩
theorem low_mem {r : Row} (ok : r.ok) {p : Int} : p ∈ expand r ↔ r.low ≤ p ∧ p < r.low + r.l := by
  rcases ok with hw | hw
  · rw [iv_row hw, iv_mem]
  · rw [iv_rev_row hw, List.mem_reverse, iv_mem]
theorem FormOf.within {a : List Row} {xs : List Int} {n m : Int} (F : FormOf a xs m) (h : ∀ x ∈ xs, 0 ≤ x ∧ x < n) : Within0 n a := fun r hr => by
  have ok := F.ok r hr
  have l1 := F.len1 r hr
  have m1 := mem_expandAll hr ((low_mem ok (p := r.low)).mpr (by omega))
  have m2 := mem_expandAll hr ((low_mem ok (p := r.low + r.l - 1)).mpr (by omega))
  rw [F.e] at m1 m2
  have := h _ m1
  have := h _ m2
  omega
/-- the product -/
theorem mul_form {a b : List Row} {xs ys : List Int} {n : Int} (F : FormOf a xs n) (G : FormOf b ys n) (h : ∀ x ∈ ys, 0 ≤ x ∧ x < n) : FormOf (mulR a b) (ys.map (atR a)) n := by
  obtain ⟨h1, h2⟩ := flat_exp F.s F.len1 F.l G.ok G.len1 (G.within h) G.s
  have hl0 : ∀ r ∈ (b.flatMap fun r => pieces r a), 0 ≤ r.l := fun r hr => by
    obtain ⟨o, ho, hp⟩ := List.mem_flatMap.mp hr
    have := pieces_len1 (G.ok o ho) r hp
    omega
  have := inForm_form h2 hl0 (flat_ok F.ok)
  rw [h1, G.e] at this
  have es : ((b.flatMap fun r => pieces r a).map Row.l).sum = n := by
    rw [← sum_len hl0, h1, List.length_map, sum_len (fun r hr => by have := G.len1 r hr; omega), G.l]
  rw [es] at this
  exact this
/-! ### the inverse -/
def ivRow (o : Row) : List Int := iv o.s (o.s + o.l)
theorem inv_iv (r : Row) (ok : r.ok) : ivRow r.inv = iv r.low (r.low + r.l) ∧ r.inv.l = r.l := by
  unfold ivRow Row.inv Row.low
  rcases ok with hw | hw
  · rw [if_pos (by omega), if_pos (by omega)]; exact ⟨rfl, rfl⟩
  · rw [if_neg (by omega), if_neg (by omega)]; exact ⟨rfl, rfl⟩
theorem inv_perm : ∀ {a : List Row}, okL a → ((a.map Row.inv).flatMap ivRow).Perm (expandAll a)
  | [], _ => .nil
  | r :: a, ok => by
    have okr := (okL_cons ok).1
    rw [List.map_cons, List.flatMap_cons, expandAll_cons]
    refine List.Perm.append ?_ (inv_perm (okL_cons ok).2)
    rw [(inv_iv r okr).1]
    rcases okr with hw | hw
    · rw [iv_row hw]
    · rw [iv_rev_row hw]
      exact (List.reverse_perm _).symm
def Asc (S : List Row) : Prop := S.Pairwise fun a b => a.s ≤ b.s
theorem insR_cons {a r : Row} {t : List Row} (h : Asc (a :: t)) : insR (a :: t) r = if a.s < r.s then a :: insR t r else r :: a :: t := by
  unfold insR
  by_cases hc : a.s < r.s
  · rw [if_pos hc, List.filter_cons_of_pos (by simpa using hc), List.length_cons]
    simp
  · rw [if_neg hc]
    have : (a :: t).filter (fun o => decide (o.s < r.s)) = [] := by
      rw [List.filter_eq_nil_iff]
      intro x hx
      have : a.s ≤ x.s := by
        rcases List.mem_cons.mp hx with rfl | hx
        · exact Int.le_refl _
        · exact List.rel_of_pairwise_cons h hx
      simp
      omega
    rw [this]
    simp
theorem insR_perm (acc : List Row) (r : Row) : (insR acc r).Perm (r :: acc) := by
  unfold insR
  have : (acc.take (acc.filter fun o => decide (o.s < r.s)).length ++ [r] ++ acc.drop (acc.filter fun o => decide (o.s < r.s)).length).Perm (r :: (acc.take (acc.filter fun o => decide (o.s < r.s)).length ++ acc.drop (acc.filter fun o => decide (o.s < r.s)).length)) := by
    rw [List.append_assoc]
    exact List.perm_middle
  rw [List.take_append_drop] at this
  exact this
theorem insR_asc : ∀ {acc : List Row} {r : Row}, Asc acc → Asc (insR acc r)
  | [], r, _ => by
    show Asc [r]
    exact List.pairwise_singleton _ _
  | a :: t, r, h => by
    rw [insR_cons h]
    have ht : Asc t := List.Pairwise.of_cons h
    by_cases hc : a.s < r.s
    · rw [if_pos hc]
      refine List.pairwise_cons.mpr ⟨fun x hx => ?_, insR_asc ht⟩
      rcases insR_mem hx with hx | hx
      · exact List.rel_of_pairwise_cons h hx
      · rw [hx]; omega
    · rw [if_neg hc]
      refine List.pairwise_cons.mpr ⟨fun x hx => ?_, h⟩
      rcases List.mem_cons.mp hx with rfl | hx
      · omega
      · have := List.rel_of_pairwise_cons h hx
        omega
theorem foldl_ins : ∀ (rs acc : List Row), Asc acc → Asc (rs.foldl insR acc) ∧ (rs.foldl insR acc).Perm (acc ++ rs)
  | [], acc, h => ⟨h, by rw [List.append_nil]; exact .refl _⟩
  | r :: rs, acc, h => by
    obtain ⟨h1, h2⟩ := foldl_ins rs (insR acc r) (insR_asc h)
    refine ⟨h1, h2.trans (((insR_perm acc r).append_right rs).trans ?_)⟩
    show (r :: (acc ++ rs)).Perm (acc ++ r :: rs)
    exact List.perm_middle.symm
theorem byStart_asc (rs : List Row) : Asc (byStart rs) ∧ (byStart rs).Perm rs := foldl_ins rs [] List.Pairwise.nil
theorem asc_starts : ∀ {S : List Row} {c n : Int}, Asc S → len1 S → (S.flatMap ivRow).Perm (iv c n) → Starts c S ∧ (c ≤ n → (S.map Row.l).sum = n - c)
  | [], c, n, _, _, p => by
    refine ⟨trivial, fun h => ?_⟩
    have := p.length_eq
    rw [iv_len] at this
    simp at this ⊢
    omega
  | o :: S, c, n, ha, hl, p => by
    have l1 := hl o List.mem_cons_self
    have hcn : c < n := by
      have := p.length_eq
      rw [iv_len, List.flatMap_cons, List.length_append] at this
      unfold ivRow at this
      rw [iv_len] at this
      omega
    have hm : ∀ x ∈ (o :: S), c ≤ x.s := fun x hx => by
      have lx := hl x hx
      have : x.s ∈ (o :: S).flatMap ivRow := List.mem_flatMap.mpr ⟨x, hx, iv_mem.mpr (by omega)⟩
      have := p.mem_iff.mp this
      rw [iv_mem] at this
      exact this.1
    have hos : o.s = c := by
      have : c ∈ (o :: S).flatMap ivRow := p.mem_iff.mpr (iv_mem.mpr (by omega))
      obtain ⟨x, hx, hc⟩ := List.mem_flatMap.mp this
      unfold ivRow at hc
      rw [iv_mem] at hc
      have h1 := hm x hx
      have h2 := hm o List.mem_cons_self
      rcases List.mem_cons.mp hx with rfl | hx'
      · omega
      · have := List.rel_of_pairwise_cons ha hx'
        omega
    have hend : c + o.l ≤ n := by
      have : o.s + o.l - 1 ∈ (o :: S).flatMap ivRow := List.mem_flatMap.mpr ⟨o, List.mem_cons_self, iv_mem.mpr (by omega)⟩
      have := p.mem_iff.mp this
      rw [iv_mem] at this
      omega
    rw [List.flatMap_cons, iv_split (lo := c) (mid := c + o.l) (by omega) hend] at p
    have e1 : ivRow o = iv c (c + o.l) := by unfold ivRow; rw [hos]
    rw [e1] at p
    have p' := (List.perm_append_left_iff _).mp p
    obtain ⟨h1, h2⟩ := asc_starts (List.Pairwise.of_cons ha) (fun x hx => hl x (List.mem_cons_of_mem _ hx)) p'
    refine ⟨⟨hos, h1⟩, fun _ => ?_⟩
    rw [List.map_cons, List.sum_cons, h2 hend]
    omega
theorem at_mem : ∀ {a : List Row} {c : Int} {r : Row} {q : Int}, Starts c a → (∀ o ∈ a, 0 ≤ o.l) → r ∈ a → r.s ≤ q → q < r.s + r.l → atR a q = r.at q ∧ c ≤ r.s
  | [], c, r, q, _, _, h, _, _ => by cases h
  | o :: a, c, r, q, hs, hl, h, h1, h2 => by
    have h0 := hl o List.mem_cons_self
    have hos := hs.1
    rcases List.mem_cons.mp h with rfl | h
    · refine ⟨?_, by omega⟩
      show (if q < r.s + r.l then _ else _) = _
      rw [if_pos h2]
    · obtain ⟨e, hc⟩ := at_mem hs.2 (fun x hx => hl x (List.mem_cons_of_mem _ hx)) h h1 h2
      refine ⟨?_, by omega⟩
      show (if q < o.s + o.l then _ else _) = _
      rw [if_neg (by omega)]
      exact e
theorem at_ex : ∀ {S : List Row} {c p : Int}, Starts c S → c ≤ p → p < c + (S.map Row.l).sum → ∃ o ∈ S, o.s ≤ p ∧ p < o.s + o.l ∧ atR S p = o.at p
  | [], c, p, _, h1, h2 => by simp at h2; omega
  | o :: S, c, p, hs, h1, h2 => by
    have hos := hs.1
    rw [List.map_cons, List.sum_cons] at h2
    by_cases hc : p < o.s + o.l
    · refine ⟨o, List.mem_cons_self, by omega, hc, ?_⟩
      show (if p < o.s + o.l then _ else _) = _
      rw [if_pos hc]
    · obtain ⟨x, h3, h4, h5, h6⟩ := at_ex hs.2 (p := p) (by omega) (by omega)
      refine ⟨x, List.mem_cons_of_mem _ h3, h4, h5, ?_⟩
      show (if p < o.s + o.l then _ else _) = _
      rw [if_neg hc]
      exact h6
theorem inv_at {r : Row} (ok : r.ok) {p : Int} (h1 : r.inv.s ≤ p) (h2 : p < r.inv.s + r.inv.l) : r.s ≤ r.inv.at p ∧ r.inv.at p < r.s + r.l ∧ r.at (r.inv.at p) = p := by
  unfold Row.inv Row.at at *
  rcases ok with hw | hw
  · have h0 : 0 < r.w := by omega
    simp only [h0, if_true] at h1 h2 ⊢
    rw [hw]
    omega
  · have h0 : ¬ 0 < r.w := by omega
    simp only [h0, if_false] at h1 h2 ⊢
    rw [hw]
    omega
/-- what the inverse lists: at p the place that leads to p -/
theorem inv_form {a : List Row} {xs : List Int} {n : Nat} (F : FormOf a xs n) (P : xs.Perm (rangeI n)) : ∃ back : List Int, FormOf (invR a) back n ∧ ∀ p : Int, 0 ≤ p → p < n → ∃ q : Int, back[p.toNat]? = some q ∧ 0 ≤ q ∧ q < n ∧ xs[q.toNat]? = some p := by
  obtain ⟨hasc, hperm⟩ := byStart_asc (a.map Row.inv)
  have hl1 : len1 (byStart (a.map Row.inv)) := fun o ho => by
    obtain ⟨r, hr, rfl⟩ := List.mem_map.mp (hperm.mem_iff.mp ho)
    rw [(inv_iv r (F.ok r hr)).2]
    exact F.len1 r hr
  have hp : ((byStart (a.map Row.inv)).flatMap ivRow).Perm (iv 0 n) := by
    refine (List.Perm.flatMap_right ivRow hperm).trans ((inv_perm F.ok).trans ?_)
    rw [F.e, ← rangeI_iv]
    exact P
  obtain ⟨hs, hsum⟩ := asc_starts hasc hl1 hp
  have hsum := hsum (by omega)
  have hok : okL (byStart (a.map Row.inv)) := fun o ho => by
    obtain ⟨r, hr, rfl⟩ := List.mem_map.mp (hperm.mem_iff.mp ho)
    exact inv_ok r
  have G := inForm_form hs (fun o ho => by have := hl1 o ho; omega) hok
  rw [hsum, Int.sub_zero] at G
  refine ⟨_, G, fun p h0 h1 => ?_⟩
  obtain ⟨o, ho, h2, h3, h4⟩ := at_ex hs h0 (by rw [hsum]; omega)
  obtain ⟨r, hr, rfl⟩ := List.mem_map.mp (hperm.mem_iff.mp ho)
  obtain ⟨q1, q2, q3⟩ := inv_at (F.ok r hr) h2 h3
  obtain ⟨e1, e2⟩ := at_mem F.s (fun o ho => by have := F.len1 o ho; omega) hr q1 q2
  have hl0 : ∀ o ∈ a, 0 ≤ o.l := fun o ho => by have := F.len1 o ho; omega
  have hq : r.s + r.l ≤ n := by
    have hw : ∀ {a : List Row} {c : Int}, Starts c a → (∀ o ∈ a, 0 ≤ o.l) → r ∈ a → r.s + r.l ≤ c + (a.map Row.l).sum := fun {a} => by
      induction a with
      | nil => intro c _ _ h; cases h
      | cons o a ih =>
        intro c hs hl h
        have hl' : ∀ o ∈ a, 0 ≤ o.l := fun x hx => hl x (List.mem_cons_of_mem _ hx)
        have hss : 0 ≤ (a.map Row.l).sum := by rw [← sum_len hl']; omega
        have := hl o List.mem_cons_self
        have hos := hs.1
        rw [List.map_cons, List.sum_cons]
        rcases List.mem_cons.mp h with rfl | h
        · omega
        · have := ih hs.2 hl' h
          omega
    have := hw F.s hl0 hr
    rw [F.l] at this
    omega
  refine ⟨r.inv.at p, ?_, by omega, by omega, ?_⟩
  · rw [expandAll_at hs (fun o ho => by have := hl1 o ho; omega), hsum, List.getElem?_map, iv_get (by omega)]
    show some (atR (byStart (a.map Row.inv)) (0 + (p.toNat : Nat))) = _
    rw [show (0 : Int) + (p.toNat : Nat) = p by omega, h4]
  · rw [F.get (by omega) (by omega), e1, q3]
end DL
end

section
set_option maxRecDepth 100000
set_option maxHeartbeats 1000000
namespace DL
open PySem PySem.Spec L2
def S_law (_ : Adr) : Spc := fun ds P _ => ∃ ns : List Int, ds = [.scr ns] ∧ P (.bl true)
theorem deq_refl {d : D} {n : Nat} (h : plainD n d = true) : deq d d = true := PySem.SeqAt.eqv_refl _ (shaped_of d n h).1
theorem kNe_rows (A : List Row) (P : D → Prop) (h : P (.bl false)) : kNe 8 (.tup (rowsD A)) (.tup (rowsD A)) P := by
  have hp : plainD 8 (.tup (rowsD A)) = true := rows_plain A 6
  refine ⟨hp, hp, ?_⟩
  rw [deq_refl hp]
  exact h
theorem formOf_of {R : List Row} {ys : List Int} (c : Canon R) (s : Starts 0 R) (e : expandAll R = ys) : FormOf R ys ys.length :=
  ⟨c, s, e, by rw [← e, sum_len (fun r hr => by have := (canon_good c r hr).1; omega)]⟩
/-- the code's own form of a list is the law's -/
theorem kNe_form {A R : List Row} {ys : List Int} {n : Int} {P : D → Prop} (F : FormOf A ys n) (nd : ys.Nodup) (c : Canon R) (s : Starts 0 R) (e : expandAll R = ys) (h : P (.bl false)) : kNe 8 (.tup (rowsD A)) (.tup (rowsD R)) P := by
  rw [← F.uniq (formOf_of c s e) nd]
  exact kNe_rows A P h
theorem back_nodup {bs xs : List Int} {n : Nat} (hl : bs.length = n) (h : ∀ p : Int, 0 ≤ p → p < n → ∃ q : Int, bs[p.toNat]? = some q ∧ 0 ≤ q ∧ q < n ∧ xs[q.toNat]? = some p) : bs.Nodup := by
  refine List.pairwise_iff_getElem.mpr fun i j hi hj hij e => ?_
  obtain ⟨q, h1, _, _, h2⟩ := h i (by omega) (by omega)
  obtain ⟨q', h3, _, _, h4⟩ := h j (by omega) (by omega)
  rw [show ((i : Int)).toNat = i by omega, List.getElem?_eq_getElem hi] at h1
  rw [show ((j : Int)).toNat = j by omega, List.getElem?_eq_getElem hj] at h3
  have e1 : q = q' := by
    have a1 := Option.some.inj h1
    have a2 := Option.some.inj h3
    rw [← a1, ← a2, e]
  rw [← e1, h2] at h4
  have := Option.some.inj h4
  omega
theorem back_eq {back bs xs : List Int} {n : Nat} (h1 : back.length = n) (h2 : bs.length = n) (h : ∀ p : Int, 0 ≤ p → p < n → ∃ q : Int, back[p.toNat]? = some q ∧ 0 ≤ q ∧ q < n ∧ xs[q.toNat]? = some p) (hb : ∀ (j : Nat) (x : Int), xs[j]? = some x → bs[x.toNat]? = some (j : Int)) : back = bs := by
  refine List.ext_getElem? fun i => ?_
  by_cases hi : i < n
  · obtain ⟨q, e1, e2, e3, e4⟩ := h i (by omega) (by omega)
    have := hb q.toNat i e4
    rw [show ((i : Int)).toNat = i by omega] at e1 this
    rw [e1, this]
    congr 1
    omega
  · rw [List.getElem?_eq_none (by omega), List.getElem?_eq_none (by omega)]
theorem FormOf.len {A : List Row} {ys : List Int} {n : Nat} (F : FormOf A ys n) : ys.length = n := by
  have := sum_len (rs := A) (fun r hr => by have := F.len1 r hr; omega)
  rw [F.e, F.l] at this
  omega
theorem map_at {A : List Row} {xs ys : List Int} {n : Nat} (F : FormOf A xs n) (h : ∀ x ∈ ys, 0 ≤ x ∧ x < n) : ys.mapM (fun x => if 0 ≤ x then xs[x.toNat]? else none) = some (ys.map (atR A)) := by
  induction ys with
  | nil => rfl
  | cons y ys ih =>
    have hy := h y List.mem_cons_self
    rw [List.mapM_cons, ih fun x hx => h x (List.mem_cons_of_mem _ hx), if_pos hy.1, F.get hy.1 hy.2]
    rfl
theorem map_at_nodup {A : List Row} {xs ys : List Int} {n : Nat} (F : FormOf A xs n) (ndx : xs.Nodup) (nd : ys.Nodup) (h : ∀ x ∈ ys, 0 ≤ x ∧ x < n) : (ys.map (atR A)).Nodup := by
  refine List.pairwise_map.mpr (List.Pairwise.imp_of_mem (fun {a b} ha hb hab e => ?_) nd)
  have h1 := F.get (h a ha).1 (h a ha).2
  have h2 := F.get (h b hb).1 (h b hb).2
  rw [e] at h1
  have := nd_inj ndx h1 h2
  have := h a ha
  have := h b hb
  exact hab (by omega)
def w_law_1 (T : Adr) (XP : XPr) : WS := (wSetIx 9 (wVar 10) (wVar 11))
def w_law_2 (T : Adr) (XP : XPr) : List D → Addr → WS := fun ds a => (wIfS (wTst (wOp (w2ee (wEf ds (wVar 14) a) (wFld T.Runs nmRuns 1 (wVar 13))) (kNe 8))) (wRet (wC (.bl false))) wNext)
def w_law_3 (T : Adr) (XP : XPr) : WS := (wTryO T.Runs (S_Runs_mul T) T.BadSize "size" 14 (wVar 12) (wVar 13) (wRet (wC (.bl false))) (w_law_2 T XP))
def w_law_4 (T : Adr) (XP : XPr) : WS := (wFor (wiL (wKn (wLstO (waCons (wTup (waCons (wVar 7) (waCons (wVar 6) waNil))) (waCons (wTup (waCons (wVar 6) (waCons (wVar 7) waNil))) waNil))))) (wgTup 2 (wgsCons (wgName 12) (wgsCons (wgName 13) wgsNil))) (w_law_3 T XP))
def w_law_5 (T : Adr) (XP : XPr) : WS := (wSeq (wSet 6 (wSh (wCall 1 (S_runs_of_list T) XP (waCons (wCallP 1 1 (S__law_row T) (waCons (wOp (w2ee (wOp (w2ee (wVar 3) (wC (.int 1))) kAdd) (wCallP 1 1 (S__law_draw T) (waCons (wC (.int 3)) waNil))) kAdd) waNil)) waNil)))) (w_law_4 T XP))
def w_law_6 (T : Adr) (XP : XPr) : WS := (wSeq (wIfS (wOrT (wTst (wOp (w2ee (wFld T.Runs nmRuns 0 (wOwnU T.Runs (S_Runs_invert T) XP (wVar 7))) (wOne (wCall 1 (S__law_form T) XP (waCons (wFrz 9) waNil)) kTupOf)) (kNe 8))) (wOrT (wTst (wOp (w2ee (wFld T.Runs nmRuns 0 (wVar 7)) (wOne (wCall 1 (S__law_form T) XP (waCons (wVar 4) waNil)) kTupOf)) (kNe 8))) (wTst (wOp (w2ee (wFld T.Runs nmRuns 0 (wVar 8)) (wOne (wCall 1 (S__law_form T) XP (waCons (wVar 5) waNil)) kTupOf)) (kNe 8))))) (wRet (wC (.bl false))) wNext) (w_law_5 T XP))
def w_law_7 (T : Adr) (XP : XPr) : WS := (wSeq (wIfS (wTst (wOp (w2ee (wFld T.Runs nmRuns 0 (wOwnB T.Runs (S_Runs_mul T) XP (wVar 8) (wVar 7))) (wOne (wCall 1 (S__law_form T) XP (waCons (wCall 2 (S__law_after T) XP (waCons (wVar 4) (waCons (wVar 5) waNil))) waNil)) kTupOf)) (kNe 8))) (wRet (wC (.bl false))) wNext) (w_law_6 T XP))
def w_law_8 (T : Adr) (XP : XPr) : WS := (wSeq (wIfS (wTst (wOp (w2ee (wFld T.Runs nmRuns 0 (wOwnB T.Runs (S_Runs_mul T) XP (wVar 7) (wVar 8))) (wOne (wCall 1 (S__law_form T) XP (waCons (wCall 2 (S__law_after T) XP (waCons (wVar 5) (waCons (wVar 4) waNil))) waNil)) kTupOf)) (kNe 8))) (wRet (wC (.bl false))) wNext) (w_law_7 T XP))
def w_law_9 (T : Adr) (XP : XPr) : WS := (wSeq (wFor (wiE (wVar 4)) (wgTup 2 (wgsCons (wgName 10) (wgsCons (wgName 11) wgsNil))) (w_law_1 T XP)) (w_law_8 T XP))
def w_law_10 (T : Adr) (XP : XPr) : WS := (wSeq (wPar3 7 8 9 (wSh (wCall 1 (S_runs_of_list T) XP (waCons (wVar 4) waNil))) (wSh (wCall 1 (S_runs_of_list T) XP (waCons (wVar 5) waNil))) (wRepO (wLstO (waCons (wC (.int 0)) waNil)) (wVar 3))) (w_law_9 T XP))
def w_law_11 (T : Adr) (XP : XPr) : WS := (wSeq (wSet 5 (wSh (wIfE (wTst (wOp (w2ee (wCallP 1 1 (S__law_draw T) (waCons (wC (.int 3)) waNil)) (wC (.int 0))) kGt)) (wCallP 1 1 (S__law_blocks T) (waCons (wVar 3) waNil)) (wCallP 1 1 (S__law_row T) (waCons (wVar 3) waNil))))) (w_law_10 T XP))
def w_law_12 (T : Adr) (XP : XPr) : WS := (wSeq (wSet 4 (wSh (wIfE (wTst (wOp (w2ee (wCallP 1 1 (S__law_draw T) (waCons (wC (.int 3)) waNil)) (wC (.int 0))) kGt)) (wCallP 1 1 (S__law_blocks T) (waCons (wVar 3) waNil)) (wCallP 1 1 (S__law_row T) (waCons (wVar 3) waNil))))) (w_law_11 T XP))
def w_law_13 (T : Adr) (XP : XPr) : WS := (wSeq (wSet 3 (wSh (wOp (w2ee (wC (.int 1)) (wCallP 1 1 (S__law_draw T) (waCons (wC (.int 24)) waNil))) kAdd))) (w_law_12 T XP))
def w_law (T : Adr) (XP : XPr) : WS := (wSeq (wSet 1 (wPenNew (wVar 0))) (wSeq (wFor (wiR1 (wC (.int 4))) (wgName 2) (w_law_13 T XP)) (wRet (wC (.bl true)))))
section
variable {T : Adr} {XP : XPr} {ds : List D} {Pv : D → Prop} {K bk : Rho → Prop} {rt : D → Rho → Prop}
abbrev isInts (xs : List Int) : D := .lst (intsD xs)
/-! from the end of a lap -/
theorem lw3 {s0 s1 s2 s3 s4 s5 s6 s7 s8 s9 s10 s11 s14 : Option Sl} {A B : List Row} {xs zs : List Int} {n k : Int} (F : FormOf A xs n) (G : FormOf B zs k) (hne : n ≠ k) (hn : n ≤ 100) (hk : k ≤ 100)
    (hK : K [s0, s1, s2, s3, s4, s5, s6, s7, s8, s9, s10, s11, some (.sh (runsD T A n)), some (.sh (runsD T B k)), none]) :
    w_law_3 T XP [s0, s1, s2, s3, s4, s5, s6, s7, s8, s9, s10, s11, some (.sh (runsD T A n)), some (.sh (runsD T B k)), s14] { nx := K, rt := rt, bk := bk, ct := K } := by
  have lA := F.small
  have lB := G.small
  simp only [w_law_3, wTryO, wVar, Rho.g]
  refine ⟨rfl, rfl, A, B, n, k, rfl, F.ok, G.ok, by omega, by omega, fun _ => ⟨rfl, rfl, fun a => ?_⟩, fun e => absurd e.symm hne⟩
  simp [w_law_2, runsD]
  exact hK
theorem lw4 {s0 s2 s3 s4 s5 s8 s9 s10 s11 s12 s13 s14 : Option Sl} {A B : List Row} {xs zs : List Int} {n k : Int} {m : Nat} (F : FormOf A xs n) (G : FormOf B zs k) (hne : n ≠ k) (hn : n ≤ 100) (hk : k ≤ 100)
    (hK : ∀ s12 s13, K [s0, some (.pn m), s2, s3, s4, s5, some (.sh (runsD T B k)), some (.sh (runsD T A n)), s8, s9, s10, s11, s12, s13, none]) :
    w_law_4 T XP [s0, some (.pn m), s2, s3, s4, s5, some (.sh (runsD T B k)), some (.sh (runsD T A n)), s8, s9, s10, s11, s12, s13, s14] { nx := K, rt := rt, bk := bk, ct := K } := by
  simp [w_law_4]
  rw [wLoop_cons]
  simp
  refine lw3 F G hne hn hk ?_
  rw [wLoop_cons]
  simp
  refine lw3 G F hne.symm hk hn ?_
  exact hK _ _
theorem lw5 {s0 s2 s4 s5 s6 s8 s9 s10 s11 s12 s13 s14 : Option Sl} {A : List Row} {xs : List Int} {n m : Nat} (F : FormOf A xs n) (hn : n ≤ 50) (hm : m + 100 < 1000000)
    (hK : ∀ m' s6 s12 s13, m' ≤ m + 60 → K [s0, some (.pn m'), s2, some (.sh (.int n)), s4, s5, s6, some (.sh (runsD T A n)), s8, s9, s10, s11, s12, s13, none]) :
    w_law_5 T XP [s0, some (.pn m), s2, some (.sh (.int n)), s4, s5, s6, some (.sh (runsD T A n)), s8, s9, s10, s11, s12, s13, s14] { nx := K, rt := rt, bk := bk, ct := K } := by
  simp [w_law_5]
  refine ⟨3, rfl, by omega, log2_i (by omega) (by omega), by omega, fun r r0 r1 => ?_⟩
  obtain ⟨j, rfl⟩ : ∃ j : Nat, r = j := ⟨r.toNat, by omega⟩
  simp
  refine ⟨n + 1 + j, by congr 1, by omega, by omega, fun zs p => ?_⟩
  have P := perm0_of p
  have G := runsOf_form zs
  rw [P.l] at G
  obtain ⟨z, hz, hzl⟩ := G.last (by omega)
  simp
  refine ⟨zs, z, rfl, P.nd, by rw [P.l]; exact P.b, by rw [P.l]; omega, by rw [P.l]; omega, hz, ?_⟩
  rw [hzl]
  refine lw4 F G (by omega) (by omega) (by omega) fun s12 s13 => ?_
  exact hK _ _ _ _ (by omega)
theorem lw6 {s0 s2 s6 s10 s11 s12 s13 s14 : Option Sl} {A B : List Row} {xs ys bs : List Int} {n m : Nat} (F : FormOf A xs n) (G : FormOf B ys n) (px : xs.Perm (rangeI n)) (py : ys.Perm (rangeI n)) (hb : ∀ (j : Nat) (x : Int), xs[j]? = some x → bs[x.toNat]? = some (j : Int)) (hbl : bs.length = n) (h1 : 1 ≤ n) (hn : n ≤ 50) (hm : m + 100 < 1000000)
    (hK : ∀ m' s6 s9 s12 s13, m' ≤ m + 60 → K [s0, some (.pn m'), s2, some (.sh (.int n)), some (.sh (isInts xs)), some (.sh (isInts ys)), s6, some (.sh (runsD T A n)), some (.sh (runsD T B n)), s9, s10, s11, s12, s13, none]) :
    w_law_6 T XP [s0, some (.pn m), s2, some (.sh (.int n)), some (.sh (isInts xs)), some (.sh (isInts ys)), s6, some (.sh (runsD T A n)), some (.sh (runsD T B n)), some (.ow (intsD bs)), s10, s11, s12, s13, s14] { nx := K, rt := rt, bk := bk, ct := K } := by
  have lA := F.small
  obtain ⟨back, HB, hback⟩ := inv_form F px
  have eb : back = bs := back_eq HB.len hbl hback hb
  subst eb
  have P := perm0_of px
  have Q := perm0_of py
  obtain ⟨z, hz, hzl⟩ := HB.last (by omega)
  simp [w_law_6, runsD]
  refine ⟨A, n, z, rfl, F.ok, by omega, hz, ?_⟩
  rw [hzl]
  simp [runsD]
  refine ⟨back, rfl, by omega, fun R c s e => ?_⟩
  simp
  refine kNe_form HB (back_nodup hbl hback) c s e ?_
  simp
  refine ⟨xs, rfl, by rw [P.l]; omega, fun R c s e => ?_⟩
  simp
  refine kNe_form F P.nd c s e ?_
  simp
  refine ⟨ys, rfl, by rw [Q.l]; omega, fun R c s e => ?_⟩
  simp
  refine kNe_form G Q.nd c s e ?_
  simp
  exact lw5 F hn hm fun m' s6 s12 s13 q => hK _ _ _ _ _ q
theorem lw7 {s0 s2 s6 s10 s11 s12 s13 s14 : Option Sl} {A B : List Row} {xs ys bs : List Int} {n m : Nat} (F : FormOf A xs n) (G : FormOf B ys n) (px : xs.Perm (rangeI n)) (py : ys.Perm (rangeI n)) (hb : ∀ (j : Nat) (x : Int), xs[j]? = some x → bs[x.toNat]? = some (j : Int)) (hbl : bs.length = n) (h1 : 1 ≤ n) (hn : n ≤ 50) (hm : m + 100 < 1000000)
    (hK : ∀ m' s6 s9 s12 s13, m' ≤ m + 60 → K [s0, some (.pn m'), s2, some (.sh (.int n)), some (.sh (isInts xs)), some (.sh (isInts ys)), s6, some (.sh (runsD T A n)), some (.sh (runsD T B n)), s9, s10, s11, s12, s13, none]) :
    w_law_7 T XP [s0, some (.pn m), s2, some (.sh (.int n)), some (.sh (isInts xs)), some (.sh (isInts ys)), s6, some (.sh (runsD T A n)), some (.sh (runsD T B n)), some (.ow (intsD bs)), s10, s11, s12, s13, s14] { nx := K, rt := rt, bk := bk, ct := K } := by
  have lA := F.small
  have lB := G.small
  have P := perm0_of px
  have Q := perm0_of py
  have M := mul_form G F P.b
  obtain ⟨z, hz, hzl⟩ := M.last (by omega)
  simp [w_law_7, runsD]
  refine ⟨B, A, n, n, rfl, G.ok, F.ok, by omega, by omega, fun e => absurd rfl e, fun _ => ⟨z, hz, ?_⟩⟩
  rw [hzl]
  simp [runsD]
  refine ⟨xs, ys, _, rfl, by rw [P.l]; omega, map_at G P.b, ?_⟩
  refine ⟨_, rfl, by rw [List.length_map, P.l]; omega, fun R c s e => ?_⟩
  simp
  refine kNe_form M (map_at_nodup G Q.nd P.nd P.b) c s e ?_
  simp
  exact lw6 F G px py hb hbl h1 hn hm hK
theorem lw8 {s0 s2 s6 s10 s11 s12 s13 s14 : Option Sl} {A B : List Row} {xs ys bs : List Int} {n m : Nat} (F : FormOf A xs n) (G : FormOf B ys n) (px : xs.Perm (rangeI n)) (py : ys.Perm (rangeI n)) (hb : ∀ (j : Nat) (x : Int), xs[j]? = some x → bs[x.toNat]? = some (j : Int)) (hbl : bs.length = n) (h1 : 1 ≤ n) (hn : n ≤ 50) (hm : m + 100 < 1000000)
    (hK : ∀ m' s6 s9 s12 s13, m' ≤ m + 60 → K [s0, some (.pn m'), s2, some (.sh (.int n)), some (.sh (isInts xs)), some (.sh (isInts ys)), s6, some (.sh (runsD T A n)), some (.sh (runsD T B n)), s9, s10, s11, s12, s13, none]) :
    w_law_8 T XP [s0, some (.pn m), s2, some (.sh (.int n)), some (.sh (isInts xs)), some (.sh (isInts ys)), s6, some (.sh (runsD T A n)), some (.sh (runsD T B n)), some (.ow (intsD bs)), s10, s11, s12, s13, s14] { nx := K, rt := rt, bk := bk, ct := K } := by
  have lA := F.small
  have lB := G.small
  have P := perm0_of px
  have Q := perm0_of py
  have M := mul_form F G Q.b
  obtain ⟨z, hz, hzl⟩ := M.last (by omega)
  simp [w_law_8, runsD]
  refine ⟨A, B, n, n, rfl, F.ok, G.ok, by omega, by omega, fun e => absurd rfl e, fun _ => ⟨z, hz, ?_⟩⟩
  rw [hzl]
  simp [runsD]
  refine ⟨ys, xs, _, rfl, by rw [Q.l]; omega, map_at F Q.b, ?_⟩
  refine ⟨_, rfl, by rw [List.length_map, Q.l]; omega, fun R c s e => ?_⟩
  simp
  refine kNe_form M (map_at_nodup F P.nd Q.nd Q.b) c s e ?_
  simp
  exact lw7 F G px py hb hbl h1 hn hm hK
theorem lw9 {s0 s2 s6 s10 s11 s12 s13 s14 : Option Sl} {A B : List Row} {xs ys b0 : List Int} {n m : Nat} (F : FormOf A xs n) (G : FormOf B ys n) (px : xs.Perm (rangeI n)) (py : ys.Perm (rangeI n)) (hbl : b0.length = n) (h1 : 1 ≤ n) (hn : n ≤ 50) (hm : m + 100 < 1000000)
    (hK : ∀ m' s6 s9 s10 s11 s12 s13, m' ≤ m + 60 → K [s0, some (.pn m'), s2, some (.sh (.int n)), some (.sh (isInts xs)), some (.sh (isInts ys)), s6, some (.sh (runsD T A n)), some (.sh (runsD T B n)), s9, s10, s11, s12, s13, none]) :
    w_law_9 T XP [s0, some (.pn m), s2, some (.sh (.int n)), some (.sh (isInts xs)), some (.sh (isInts ys)), s6, some (.sh (runsD T A n)), some (.sh (runsD T B n)), some (.ow (intsD b0)), s10, s11, s12, s13, s14] { nx := K, rt := rt, bk := bk, ct := K } := by
  have P := perm0_of px
  simp [w_law_9]
  refine wLoop_enum (fun i ρ => ∃ (s10 s11 : Option Sl) (bs : List Int), bs.length = n ∧ (∀ (j : Nat) (x : Int), j < i → xs[j]? = some x → bs[x.toNat]? = some (j : Int)) ∧
    ρ = [s0, some (.pn m), s2, some (.sh (.int n)), some (.sh (isInts xs)), some (.sh (isInts ys)), s6, some (.sh (runsD T A n)), some (.sh (runsD T B n)), some (.ow (intsD bs)), s10, s11, s12, s13, s14]) ?_ ⟨s10, s11, b0, hbl, fun j x hj => absurd hj (Nat.not_lt_zero _), rfl⟩ ?_
  · rintro i y ρ K' hi ⟨s10, s11, bs, hl, hb, rfl⟩ hK'
    unfold intsD at hi
    rw [List.getElem?_map] at hi
    cases ex : xs[i]? with
    | none => rw [ex] at hi; cases hi
    | some x =>
      rw [ex] at hi
      cases hi
      have hx := P.b x (List.mem_of_getElem? ex)
      simp [w_law_1, intsD_len]
      rw [ixN_ok hx.1 (by omega)]
      have es : (intsD bs).set x.toNat (D.int i) = intsD (bs.set x.toNat i) := by unfold intsD; rw [List.map_set]
      dsimp only
      rw [es]
      refine hK' _ ⟨_, _, bs.set x.toNat i, by rw [List.length_set]; exact hl, fun j x' hj hx' => ?_, rfl⟩
      by_cases hji : j = i
      · subst hji
        rw [ex] at hx'
        cases hx'
        rw [List.getElem?_set, if_pos rfl, if_pos (by omega)]
      · have hx'b := P.b x' (List.mem_of_getElem? hx')
        have hne : x.toNat ≠ x'.toNat := fun e => by
          have : x = x' := by omega
          subst this
          exact hji (nd_inj P.nd hx' ex)
        rw [List.getElem?_set, if_neg hne]
        exact hb j x' (by omega) hx'
  · rintro ρ ⟨s10, s11, bs, hl, hb, rfl⟩
    rw [intsD_len, P.l] at hb
    refine lw8 F G px py (fun j x hx => hb j x ?_ hx) hl h1 hn hm fun m' s6 s9 s12 s13 q => hK _ _ _ _ _ _ _ q
    have := (List.getElem?_eq_some_iff.mp hx).1
    rw [P.l] at this
    exact this
theorem lw10 {s0 s2 s6 s7 s8 s9 s10 s11 s12 s13 s14 : Option Sl} {xs ys : List Int} {n m : Nat} (px : xs.Perm (rangeI n)) (py : ys.Perm (rangeI n)) (h1 : 1 ≤ n) (hn : n ≤ 50) (hm : m + 100 < 1000000)
    (hK : ∀ m' s3 s4 s5 s6 s7 s8 s9 s10 s11 s12 s13, m' ≤ m + 60 → K [s0, some (.pn m'), s2, s3, s4, s5, s6, s7, s8, s9, s10, s11, s12, s13, none]) :
    w_law_10 T XP [s0, some (.pn m), s2, some (.sh (.int n)), some (.sh (isInts xs)), some (.sh (isInts ys)), s6, s7, s8, s9, s10, s11, s12, s13, s14] { nx := K, rt := rt, bk := bk, ct := K } := by
  have P := perm0_of px
  have Q := perm0_of py
  have F := runsOf_form xs
  have G := runsOf_form ys
  rw [P.l] at F
  rw [Q.l] at G
  obtain ⟨z, hz, hzl⟩ := F.last (by omega)
  obtain ⟨z', hz', hzl'⟩ := G.last (by omega)
  simp [w_law_10]
  refine ⟨xs, z, rfl, P.nd, by rw [P.l]; exact P.b, by rw [P.l]; omega, by rw [P.l]; omega, hz, ?_⟩
  rw [hzl]
  refine ⟨ys, z', rfl, Q.nd, by rw [Q.l]; exact Q.b, by rw [Q.l]; omega, by rw [Q.l]; omega, hz', ?_⟩
  rw [hzl']
  refine ⟨by omega, ?_⟩
  have e0 : (List.replicate n (D.int 0)) = intsD (List.replicate n 0) := by unfold intsD; rw [List.map_replicate]
  rw [e0]
  exact lw9 F G px py (by rw [List.length_replicate]) h1 hn hm fun m' s6 s9 s10 s11 s12 s13 q => hK _ _ _ _ _ _ _ _ _ _ _ _ q
theorem pick_row {ρ : Rho} {P : D → Rho → Prop} {n m : Nat} (hn : n ≤ 50) (hm : m + 200 < 1000000) (e1 : Rho.g ρ 1 = some (.pn m)) (e3 : ∀ x, Rho.g (Rho.s ρ 1 (some (.pn x))) 3 = some (.sh (.int n))) (e4 : ∀ x, Rho.g (Rho.s ρ 1 (some (.pn x))) 1 = some (.pn x)) (h : ∀ (xs : List Int) m', xs.Perm (rangeI n) → m' ≤ m + 160 → P (isInts xs) (Rho.s (Rho.s ρ 1 (some (.pn (m + 1)))) 1 (some (.pn m')))) :
    wIfE (wTst (wOp (w2ee (wCallP 1 1 (S__law_draw T) (waCons (wC (.int 3)) waNil)) (wC (.int 0))) kGt)) (wCallP 1 1 (S__law_blocks T) (waCons (wVar 3) waNil)) (wCallP 1 1 (S__law_row T) (waCons (wVar 3) waNil)) ρ P := by
  refine ⟨⟨m, e1⟩, ?_⟩
  show (match Rho.g ρ 1 with | some (.pn m) => _ | _ => False)
  rw [e1]
  refine ⟨rfl, 3, rfl, by omega, log2_i (by omega) (by omega), by omega, fun r r0 r1 => ?_⟩
  refine ⟨fun _ => ⟨⟨_, e4 _⟩, ?_⟩, fun _ => ⟨⟨_, e4 _⟩, ?_⟩⟩
  · show (match Rho.g (Rho.s ρ 1 (some (.pn (m + 1)))) 3 with | some (.sh d) => _ | _ => False)
    rw [e3]
    show (match Rho.g (Rho.s ρ 1 (some (.pn (m + 1)))) 1 with | some (.pn m) => _ | _ => False)
    rw [e4]
    exact ⟨rfl, n, rfl, by omega, by omega, fun xs m' p q => h xs m' p (by omega)⟩
  · show (match Rho.g (Rho.s ρ 1 (some (.pn (m + 1)))) 3 with | some (.sh d) => _ | _ => False)
    rw [e3]
    show (match Rho.g (Rho.s ρ 1 (some (.pn (m + 1)))) 1 with | some (.pn m) => _ | _ => False)
    rw [e4]
    exact ⟨rfl, n, rfl, by omega, by omega, fun xs p => h xs _ p (by omega)⟩
theorem lw11 {s0 s2 s5 s6 s7 s8 s9 s10 s11 s12 s13 s14 : Option Sl} {xs : List Int} {n m : Nat} (px : xs.Perm (rangeI n)) (h1 : 1 ≤ n) (hn : n ≤ 50) (hm : m + 300 < 1000000)
    (hK : ∀ m' s3 s4 s5 s6 s7 s8 s9 s10 s11 s12 s13, m' ≤ m + 220 → K [s0, some (.pn m'), s2, s3, s4, s5, s6, s7, s8, s9, s10, s11, s12, s13, none]) :
    w_law_11 T XP [s0, some (.pn m), s2, some (.sh (.int n)), some (.sh (isInts xs)), s5, s6, s7, s8, s9, s10, s11, s12, s13, s14] { nx := K, rt := rt, bk := bk, ct := K } := by
  unfold w_law_11 wSeq wSet wSh
  refine pick_row (n := n) (m := m) hn (by omega) rfl (fun x => rfl) (fun x => rfl) fun ys m' py q => ?_
  exact lw10 px py h1 hn (by omega) fun m'' s3 s4 s5 s6 s7 s8 s9 s10 s11 s12 s13 q' => hK _ _ _ _ _ _ _ _ _ _ _ _ (by omega)
theorem lw12 {s0 s2 s4 s5 s6 s7 s8 s9 s10 s11 s12 s13 s14 : Option Sl} {n m : Nat} (h1 : 1 ≤ n) (hn : n ≤ 50) (hm : m + 500 < 1000000)
    (hK : ∀ m' s3 s4 s5 s6 s7 s8 s9 s10 s11 s12 s13, m' ≤ m + 380 → K [s0, some (.pn m'), s2, s3, s4, s5, s6, s7, s8, s9, s10, s11, s12, s13, none]) :
    w_law_12 T XP [s0, some (.pn m), s2, some (.sh (.int n)), s4, s5, s6, s7, s8, s9, s10, s11, s12, s13, s14] { nx := K, rt := rt, bk := bk, ct := K } := by
  unfold w_law_12 wSeq wSet wSh
  refine pick_row (n := n) (m := m) hn (by omega) rfl (fun x => rfl) (fun x => rfl) fun ys m' py q => ?_
  exact lw11 py h1 hn (by omega) fun m'' s3 s4 s5 s6 s7 s8 s9 s10 s11 s12 s13 q' => hK _ _ _ _ _ _ _ _ _ _ _ _ (by omega)
theorem lw13 {s0 s2 s3 s4 s5 s6 s7 s8 s9 s10 s11 s12 s13 s14 : Option Sl} {m : Nat} (hm : m + 600 < 1000000)
    (hK : ∀ m' s3 s4 s5 s6 s7 s8 s9 s10 s11 s12 s13, m' ≤ m + 400 → K [s0, some (.pn m'), s2, s3, s4, s5, s6, s7, s8, s9, s10, s11, s12, s13, none]) :
    w_law_13 T XP [s0, some (.pn m), s2, s3, s4, s5, s6, s7, s8, s9, s10, s11, s12, s13, s14] { nx := K, rt := rt, bk := bk, ct := K } := by
  simp [w_law_13]
  refine ⟨24, rfl, by omega, log2_i (by omega) (by omega), by omega, fun r r0 r1 => ?_⟩
  obtain ⟨k, rfl⟩ : ∃ k : Nat, r = k := ⟨r.toNat, by omega⟩
  simp
  rw [show (1 : Int) + k = ((k + 1 : Nat) : Int) by omega]
  exact lw12 (by omega) (by omega) (by omega) fun m'' s3 s4 s5 s6 s7 s8 s9 s10 s11 s12 s13 q' => hK _ _ _ _ _ _ _ _ _ _ _ _ (by omega)
theorem L_law (h : S_law T ds Pv XP) : w_law T XP (rho0 ["script", "pen", "lap", "size", "one", "two", "other", "f", "g", "back", "place", "source", "first", "second", "e"] ds) (outD Pv) := by
  obtain ⟨ns, rfl, h⟩ := h
  simp [w_law, rho0]
  refine wLoop_range (fun i ρ => ∃ (m : Nat) (s2 s3 s4 s5 s6 s7 s8 s9 s10 s11 s12 s13 s14 : Option Sl), m ≤ 400 * i ∧ ρ = [some (.sh (.scr ns)), some (.pn m), s2, s3, s4, s5, s6, s7, s8, s9, s10, s11, s12, s13, s14]) ?_ ⟨0, none, none, none, none, none, none, none, none, none, none, none, none, none, by omega, rfl⟩ ?_
  · rintro i ρ K hi ⟨m, s2, s3, s4, s5, s6, s7, s8, s9, s10, s11, s12, s13, s14, hm, rfl⟩ hK
    simp
    exact lw13 (by omega) fun m' s3 s4 s5 s6 s7 s8 s9 s10 s11 s12 s13 q => hK _ ⟨m', _, s3, s4, s5, s6, s7, s8, s9, s10, s11, s12, s13, none, by omega, rfl⟩
  · rintro ρ ⟨m, s2, s3, s4, s5, s6, s7, s8, s9, s10, s11, s12, s13, s14, hm, rfl⟩
    simp
    exact h
end
end DL
end

section
set_option maxRecDepth 100000
set_option maxHeartbeats 4000000
namespace DL
open PySem PySem.Spec PyProof.Rows L2

theorem boot_bool : bootBuiltins "bool" = some (.type "bool") := by decide +kernel
theorem nb6 {K : PySem.W.Frag} {C : Addr} (z0 : PySem.W.kitOne K (.type "NoneType") (.ref C) = some false) (z1 : PySem.W.kitOne K (.type "bool") (.ref C) = some false) (z2 : PySem.W.kitOne K (.type "int") (.ref C) = some false) (z3 : PySem.W.kitOne K (.type "str") (.ref C) = some false)
    (z4 : PySem.W.kitOne K (.type "tuple") (.ref C) = some false) (z5 : PySem.W.kitOne K (.type "list") (.ref C) = some false) (T : String) (h : T ∈ (["NoneType", "bool", "int", "str", "tuple", "list"] : List String)) : PySem.W.kitOne K (.type T) (.ref C) = some false := by
  simp only [List.mem_cons, List.not_mem_nil, or_false] at h
  rcases h with rfl | rfl | rfl | rfl | rfl | rfl <;> assumption
theorem pen_cells (ns : List Int) : wLstOf (wSl (wVar 0) woNo (woSo (wC (.int 63)))) (rho0 ["script"] [.scr ns]) fun s _ => ∃ ns' : List Int, s = .ow (ns'.map .int) ∧ ns'.length ≤ 63 := by
  simp [rho0]
  refine ⟨cut ns none (some 63), rfl, ?_⟩
  unfold cut
  rw [List.length_take, List.length_drop]
  have h0 : HT.sIx ns.length 0 none = 0 := rfl
  have h1 : HT.sIx ns.length ns.length (some 63) ≤ 63 := by
    show (if (63 : Int) < 0 then ((63 : Int) + ns.length).toNat else min (63 : Int).toNat ns.length) ≤ 63
    rw [if_neg (by omega)]
    exact Nat.min_le_left _ _
  omega
theorem law_sp {K : PySem.W.Frag} {H : Hp} {a : Addr} {ns : List Int} (hS : SqL K H a (ns.map V.int)) : SpD K 1 (S_law ⟨0, 0, 0, 0, 0⟩) [.ref a] H (fun v _ => v = .bl true) fun _ _ _ => False :=
  ⟨H, [.scr ns], fun d => d = .bl true, XP0, Same.refl _, .cons (.scr hS) .nil, rfl, ⟨ns, rfl, rfl⟩, fun v d H' e _ i => by subst e; cases i; rfl, fun _ _ _ _ _ _ x => x.elim⟩
theorem cx_no {P : Program} {w : World} {H : Hp} {s : Shared} {e : Value} {s' : Shared} (z : L2.CX P w [] H s (fun _ _ _ => False) e s') : False := by
  obtain ⟨_, _, _, _, _, _, _, _, _, _, _, _, h⟩ := z
  exact h


theorem exm_self {K : PySem.W.Frag} {S : Addr} (h1 : PySem.W.subIn K (.ref S) (.type "BaseException") = some true) (h2 : PySem.W.isClsIn K S = true) (h3 : PySem.W.typeIn K (.ref S) = some (.type "type")) (h4 : PySem.W.mroIn K S (.ref S) = some true) : PySem.W.exmOne K (.ref S) (.ref S) = some true := by
  have e1 : (PySem.W.subIn K (.ref S) (.type "BaseException") == some true) = true := by rw [h1] <;> rfl
  have e2 : ((PySem.W.clsIn K S).isSome && PySem.W.typeIn K (.ref S) == some (.type "type")) = true := by
    have h2' : (PySem.W.clsIn K S).isSome = true := h2
    rw [h2', h3] <;> rfl
  show (if (PySem.W.subIn K (.ref S) (.type "BaseException") == some true) = true then (if ((PySem.W.clsIn K S).isSome && PySem.W.typeIn K (.ref S) == some (.type "type")) = true then PySem.W.mroIn K S (.ref S) else none) else none) = some true
  rw [if_pos e1, if_pos e2]
  exact h4

def top (i : Nat) : Stmt := PySem.Challenge.pw_everyorder_k29_products_of_runs.main.body.getD i (.Pass ⟨0, 0, 0, 0⟩)
abbrev s_is_integer : Stmt := top 7
theorem sc_is_integer : FnScope ["value"] ["value"] (defScope s_is_integer) := ⟨rfl, rfl, rfl, by decide +kernel, rfl, by decide +kernel, by decide +kernel⟩
abbrev s_parts_of : Stmt := top 14
theorem sc_parts_of : FnScope ["number"] ["number"] (defScope s_parts_of) := ⟨rfl, rfl, rfl, by decide +kernel, rfl, by decide +kernel, by decide +kernel⟩
abbrev s_sign_of : Stmt := top 15
theorem sc_sign_of : FnScope ["number", "way", "slope", "value"] ["number"] (defScope s_sign_of) := ⟨rfl, rfl, rfl, by decide +kernel, rfl, by decide +kernel, by decide +kernel⟩
abbrev s_is_less : Stmt := top 16
theorem sc_is_less : FnScope ["one", "other"] ["one", "other"] (defScope s_is_less) := ⟨rfl, rfl, rfl, by decide +kernel, rfl, by decide +kernel, by decide +kernel⟩
abbrev s_is_same : Stmt := top 17
theorem sc_is_same : FnScope ["one", "other"] ["one", "other"] (defScope s_is_same) := ⟨rfl, rfl, rfl, by decide +kernel, rfl, by decide +kernel, by decide +kernel⟩
abbrev s_greater : Stmt := top 18
theorem sc_greater : FnScope ["one", "other"] ["one", "other"] (defScope s_greater) := ⟨rfl, rfl, rfl, by decide +kernel, rfl, by decide +kernel, by decide +kernel⟩
abbrev s_lesser : Stmt := top 19
theorem sc_lesser : FnScope ["one", "other"] ["one", "other"] (defScope s_lesser) := ⟨rfl, rfl, rfl, by decide +kernel, rfl, by decide +kernel, by decide +kernel⟩
abbrev s_joined_row : Stmt := top 22
theorem sc_joined_row : FnScope ["row", "more", "start", "length", "goal", "way"] ["row", "more"] (defScope s_joined_row) := ⟨rfl, rfl, rfl, by decide +kernel, rfl, by decide +kernel, by decide +kernel⟩
abbrev s_in_form : Stmt := top 23
theorem sc_in_form : FnScope ["rows", "found", "row", "more"] ["rows"] (defScope s_in_form) := ⟨rfl, rfl, rfl, by decide +kernel, rfl, by decide +kernel, by decide +kernel⟩
abbrev s_pieces : Stmt := top 24
theorem sc_pieces : FnScope ["row", "others", "found", "start", "length", "goal", "way", "first", "many", "there", "turn", "low", "begin", "end"] ["row", "others"] (defScope s_pieces) := ⟨rfl, rfl, rfl, by decide +kernel, rfl, by decide +kernel, by decide +kernel⟩
abbrev s_by_start : Stmt := top 25
theorem sc_by_start : FnScope ["rows", "found", "row", "place", "one"] ["rows"] (defScope s_by_start) := ⟨rfl, rfl, rfl, by decide +kernel, rfl, by decide +kernel, by decide +kernel⟩
abbrev s_Runs_init : Stmt := inClass (top 26) 0
theorem sc_Runs_init : FnScope ["self", "rows"] ["self", "rows"] (defScope s_Runs_init) := ⟨rfl, rfl, rfl, by decide +kernel, rfl, by decide +kernel, by decide +kernel⟩
abbrev s_Runs_mul : Stmt := inClass (top 26) 5
theorem sc_Runs_mul : FnScope ["self", "other", "row", "piece"] ["self", "other"] (defScope s_Runs_mul) := ⟨rfl, rfl, rfl, by decide +kernel, rfl, by decide +kernel, by decide +kernel⟩
abbrev s_Runs_invert : Stmt := inClass (top 26) 6
theorem sc_Runs_invert : FnScope ["self", "turned", "start", "length", "goal", "way"] ["self"] (defScope s_Runs_invert) := ⟨rfl, rfl, rfl, by decide +kernel, rfl, by decide +kernel, by decide +kernel⟩
abbrev s_need_row : Stmt := top 10
theorem sc_need_row : FnScope ["row", "seen", "index", "part"] ["row"] (defScope s_need_row) := ⟨rfl, rfl, rfl, by decide +kernel, rfl, by decide +kernel, by decide +kernel⟩
abbrev s_runs_of_list : Stmt := top 27
theorem sc_runs_of_list : FnScope ["places", "at", "place"] ["places"] (defScope s_runs_of_list) := ⟨rfl, rfl, rfl, by decide +kernel, rfl, by decide +kernel, by decide +kernel⟩
abbrev s__law_form : Stmt := top 29
theorem sc__law_form : FnScope ["row", "turn", "found", "at", "k", "many", "way"] ["row"] (defScope s__law_form) := ⟨rfl, rfl, rfl, by decide +kernel, rfl, by decide +kernel, by decide +kernel⟩
abbrev s__law_after : Stmt := top 35
theorem sc__law_after : FnScope ["row", "things", "part"] ["row", "things"] (defScope s__law_after) := ⟨rfl, rfl, rfl, by decide +kernel, rfl, by decide +kernel, by decide +kernel⟩
abbrev s__law_draw : Stmt := top 32
theorem sc__law_draw : FnScope ["pen", "many", "at", "cell", "mixed", "digit"] ["pen", "many"] (defScope s__law_draw) := ⟨rfl, rfl, rfl, by decide +kernel, rfl, by decide +kernel, by decide +kernel⟩
abbrev s__law_shuffled : Stmt := top 33
theorem sc__law_shuffled : FnScope ["pen", "some", "k", "left", "found"] ["pen", "some"] (defScope s__law_shuffled) := ⟨rfl, rfl, rfl, by decide +kernel, rfl, by decide +kernel, by decide +kernel⟩
abbrev s__law_row : Stmt := top 34
theorem sc__law_row : FnScope ["pen", "size"] ["pen", "size"] (defScope s__law_row) := ⟨rfl, rfl, rfl, by decide +kernel, rfl, by decide +kernel, by decide +kernel⟩
abbrev s__law_blocks : Stmt := top 30
theorem sc__law_blocks : FnScope ["pen", "size", "turn", "block", "found", "at", "blocks", "many"] ["pen", "size"] (defScope s__law_blocks) := ⟨rfl, rfl, rfl, by decide +kernel, rfl, by decide +kernel, by decide +kernel⟩
abbrev s__law_pen : Stmt := top 31
theorem sc__law_pen : FnScope ["script"] ["script"] (defScope s__law_pen) := ⟨rfl, rfl, rfl, by decide +kernel, rfl, by decide +kernel, by decide +kernel⟩
abbrev s_law : Stmt := top 36
theorem sc_law : FnScope ["script", "pen", "lap", "size", "one", "two", "other", "f", "g", "back", "place", "source", "first", "second", "e"] ["script"] (defScope s_law) := ⟨rfl, rfl, rfl, by decide +kernel, rfl, by decide +kernel, by decide +kernel⟩
/-- what the top has written -/
structure Txt (P : Program) (K : PySem.W.Frag) (mg : Str → Option Value) (T : Adr) : Prop where
  b_len : mg "len" = none
  b_isinstance : mg "isinstance" = none
  b_int : mg "int" = none
  b_bool : mg "bool" = none
  b_tuple : mg "tuple" = none
  b_list : mg "list" = none
  b_range : mg "range" = none
  b_enumerate : mg "enumerate" = none
  b_min : mg "min" = none
  g_Line : mg "Line" = some (.ref T.Line)
  nb_Line : NotB K T.Line
  g_MOST_SIZE : ∃ u, mg "MOST_SIZE" = some u ∧ RelV (.int 1000) u
  c_Runs : Cls K T.Runs
  n_Runs_rows : NoAttr K T.Runs "rows"
  n_Runs_size : NoAttr K T.Runs "size"
  s_Runs : PySem.W.selfFirst K T.Runs = true
  r_BadSize : Rai P K mg "BadSize" "size" T.BadSize
theorem Txt.ok_Line {P : Program} {K : PySem.W.Frag} {mg : Str → Option Value} {T : Adr} (_ : Txt P K mg T) (C : Addr) (b : Bool) (h : T.okLine C = some b) : InsC K C ∧ PySem.W.kitOne K (.ref C) (.ref T.Line) = some b := by cases h
theorem ok_is_integer {P : Program} {w : World} {K : PySem.W.Frag} {mg : Str → Option Value} {base : Heap} {T : Adr} (B : Txt P K mg T) {f : Addr} {fd : FuncData} (F : Fun K "is_integer" "is_integer" s_is_integer f fd) : FnOk P w K mg base (L2.CX P w) 1 f fd ["value"] (SpD K 1 (S_is_integer T)) := by
  have hmu : (none : Option Addr) = none := rfl
  refine okD F sc_is_integer rfl (fun cdv A outer s H E G XP ex hr tk => ⟨_, w_is_integer T XP, (pds_one (pd_ret (pd_and (pd_isT B.b_isinstance B.b_int boot_int (pd_var 0)) (pd_one (pd_not (pd_isT B.b_isinstance B.b_bool boot_bool (pd_var 0))))))), fun ds Pv hl h => L_is_integer h⟩)
theorem ok_parts_of {P : Program} {w : World} {K : PySem.W.Frag} {mg : Str → Option Value} {base : Heap} {T : Adr} (B : Txt P K mg T) {f : Addr} {fd : FuncData} (F : Fun K "parts_of" "parts_of" s_parts_of f fd) : FnOk P w K mg base (L2.CX P w) 1 f fd ["number"] (SpD K 1 (S_parts_of T)) := by
  have hmu : (none : Option Addr) = none := rfl
  refine okD F sc_parts_of rfl (fun cdv A outer s H E G XP ex hr tk => ⟨_, w_parts_of T XP, (pds_cons (pd_ifS (pdt_val (pd_isC B.b_isinstance B.g_Line B.nb_Line B.ok_Line (pd_var 0))) (pds_one pd_never) pds_nil) (pds_one (pd_ret (pd_tup (pda_cons pd_int (pda_cons (pd_var 0) pda_nil)))))), fun ds Pv hl h => L_parts_of h⟩)
theorem ok_sign_of {P : Program} {w : World} {K : PySem.W.Frag} {mg : Str → Option Value} {base : Heap} {T : Adr} (B : Txt P K mg T) {f : Addr} {fd : FuncData} (F : Fun K "sign_of" "sign_of" s_sign_of f fd) (c_parts_of : Cal P w K mg base 1 "parts_of" (SpD K 1 (S_parts_of T))) : FnOk P w K mg base (L2.CX P w) 2 f fd ["number"] (SpD K 1 (S_sign_of T)) := by
  have hmu : (none : Option Addr) = none := rfl
  refine okD F sc_sign_of rfl (fun cdv A outer s H E G XP ex hr tk => ⟨_, w_sign_of T XP, (pds_cons (pd_asg (pd_call c_parts_of hr (by decide) rfl tk (pda_cons (pd_var 0) pda_nil)) (pdg_tup rfl (pdgs_cons (pdg_name 2 sc_sign_of.nd rfl (by first | exact .inl rfl | exact .inr rfl)) (pdgs_cons (pdg_name 3 sc_sign_of.nd rfl (by first | exact .inl rfl | exact .inr rfl)) pdgs_nil)))) (pds_cons (pd_ifS (pdt_eq hr (pd2_ee (pd_var 2) (PDE.r pd_int))) (pds_one (pd_ret (pd_sub (pd2_ee (pd_intOf B.b_int (PDE.r (pd_cmp op_gt opd_B (pd2_ee (pd_var 3) (PDE.r pd_int)) (nomark _)))) (PDE.r (pd_intOf B.b_int (PDE.r (pd_cmp op_lt opd_B (pd2_ee (pd_var 3) (PDE.r pd_int)) (nomark _))))))))) pds_nil) (pds_cons pd_never (pds_cons pd_never (pds_one pd_never))))), fun ds Pv hl h => L_sign_of h⟩)
theorem ok_is_less {P : Program} {w : World} {K : PySem.W.Frag} {mg : Str → Option Value} {base : Heap} {T : Adr} (B : Txt P K mg T) {f : Addr} {fd : FuncData} (F : Fun K "is_less" "is_less" s_is_less f fd) (c_sign_of : Cal P w K mg base 2 "sign_of" (SpD K 1 (S_sign_of T))) : FnOk P w K mg base (L2.CX P w) 3 f fd ["one", "other"] (SpD K 2 (S_is_less T)) := by
  have hmu : (none : Option Addr) = none := rfl
  refine okD F sc_is_less rfl (fun cdv A outer s H E G XP ex hr tk => ⟨_, w_is_less T XP, (pds_one (pd_ret (pd_cmp op_lt opd_B (pd2_ee (pd_call c_sign_of hr (by decide) rfl tk (pda_cons (pd_sub (pd2_ee (pd_var 0) (PDE.r (pd_var 1)))) pda_nil)) (PDE.r pd_int)) (nomark _)))), fun ds Pv hl h => L_is_less h⟩)
theorem ok_is_same {P : Program} {w : World} {K : PySem.W.Frag} {mg : Str → Option Value} {base : Heap} {T : Adr} (B : Txt P K mg T) {f : Addr} {fd : FuncData} (F : Fun K "is_same" "is_same" s_is_same f fd) (c_sign_of : Cal P w K mg base 2 "sign_of" (SpD K 1 (S_sign_of T))) : FnOk P w K mg base (L2.CX P w) 3 f fd ["one", "other"] (SpD K 2 (S_is_same T)) := by
  have hmu : (none : Option Addr) = none := rfl
  refine okD F sc_is_same rfl (fun cdv A outer s H E G XP ex hr tk => ⟨_, w_is_same T XP, (pds_one (pd_ret (pd_eq hr (pd2_ee (pd_call c_sign_of hr (by decide) rfl tk (pda_cons (pd_sub (pd2_ee (pd_var 0) (PDE.r (pd_var 1)))) pda_nil)) (PDE.r pd_int))))), fun ds Pv hl h => L_is_same h⟩)
theorem ok_greater {P : Program} {w : World} {K : PySem.W.Frag} {mg : Str → Option Value} {base : Heap} {T : Adr} (B : Txt P K mg T) {f : Addr} {fd : FuncData} (F : Fun K "greater" "greater" s_greater f fd) (c_is_less : Cal P w K mg base 3 "is_less" (SpD K 2 (S_is_less T))) : FnOk P w K mg base (L2.CX P w) 4 f fd ["one", "other"] (SpD K 2 (S_greater T)) := by
  have hmu : (none : Option Addr) = none := rfl
  refine okD F sc_greater rfl (fun cdv A outer s H E G XP ex hr tk => ⟨_, w_greater T XP, (pds_one (pd_ret (pd_if (pdt_val (pd_call c_is_less hr (by decide) rfl tk (pda_cons (pd_var 0) (pda_cons (pd_var 1) pda_nil)))) (pd_var 1) (pd_var 0)))), fun ds Pv hl h => L_greater h⟩)
theorem ok_lesser {P : Program} {w : World} {K : PySem.W.Frag} {mg : Str → Option Value} {base : Heap} {T : Adr} (B : Txt P K mg T) {f : Addr} {fd : FuncData} (F : Fun K "lesser" "lesser" s_lesser f fd) (c_is_less : Cal P w K mg base 3 "is_less" (SpD K 2 (S_is_less T))) : FnOk P w K mg base (L2.CX P w) 4 f fd ["one", "other"] (SpD K 2 (S_lesser T)) := by
  have hmu : (none : Option Addr) = none := rfl
  refine okD F sc_lesser rfl (fun cdv A outer s H E G XP ex hr tk => ⟨_, w_lesser T XP, (pds_one (pd_ret (pd_if (pdt_val (pd_call c_is_less hr (by decide) rfl tk (pda_cons (pd_var 1) (pda_cons (pd_var 0) pda_nil)))) (pd_var 1) (pd_var 0)))), fun ds Pv hl h => L_lesser h⟩)
theorem ok_joined_row {P : Program} {w : World} {K : PySem.W.Frag} {mg : Str → Option Value} {base : Heap} {T : Adr} (B : Txt P K mg T) {f : Addr} {fd : FuncData} (F : Fun K "joined_row" "joined_row" s_joined_row f fd) (c_is_same : Cal P w K mg base 3 "is_same" (SpD K 2 (S_is_same T))) : FnOk P w K mg base (L2.CX P w) 4 f fd ["row", "more"] (SpD K 2 (S_joined_row T)) := by
  have hmu : (none : Option Addr) = none := rfl
  refine okD F sc_joined_row rfl (fun cdv A outer s H E G XP ex hr tk => ⟨_, w_joined_row T XP, (pds_cons (pd_asg (pd_var 0) (pdg_tup rfl (pdgs_cons (pdg_name 2 sc_joined_row.nd rfl (by first | exact .inl rfl | exact .inr rfl)) (pdgs_cons (pdg_name 3 sc_joined_row.nd rfl (by first | exact .inl rfl | exact .inr rfl)) (pdgs_cons (pdg_name 4 sc_joined_row.nd rfl (by first | exact .inl rfl | exact .inr rfl)) (pdgs_cons (pdg_name 5 sc_joined_row.nd rfl (by first | exact .inl rfl | exact .inr rfl)) pdgs_nil)))))) (pds_cons (pd_ifS (pdt_val (pd_call c_is_same hr (by decide) rfl tk (pda_cons (pd_var 3) (pda_cons pd_int pda_nil)))) (pds_one (pd_set 5 sc_joined_row.nd rfl (by first | exact .inl rfl | exact .inr rfl) (PDE.x (pd_if (pdt_val (pd_call c_is_same hr (by decide) rfl tk (pda_cons (pd_ix (pd2_ee (pd_var 1) (PDE.r pd_int))) (pda_cons (pd_add (pd2_ee (pd_var 4) (PDE.r pd_int))) pda_nil)))) pd_int (pd_neg pd_int))))) pds_nil) (pds_cons (pd_ifS (PDW.pt (pdw_or (pdt_not (pdt_val (pd_call c_is_same hr (by decide) rfl tk (pda_cons (pd_ix (pd2_ee (pd_var 1) (PDE.r pd_int))) (pda_cons (pd_add (pd2_ee (pd_var 4) (PDE.r (pd_mul (pd2_ee (pd_var 5) (PDE.r (pd_var 3))))))) pda_nil))))) (pdw_or1 (pdt_not (PDW.pt (pdw_or (pdt_eq hr (pd2_ee (pd_ix (pd2_ee (pd_var 1) (PDE.r pd_int))) (PDE.r (pd_var 5)))) (pdw_or1 (pdt_val (pd_call c_is_same hr (by decide) rfl tk (pda_cons (pd_ix (pd2_ee (pd_var 1) (PDE.r pd_int))) (pda_cons pd_int pda_nil))))))))))) (pds_one (pd_ret pd_non)) pds_nil) (pds_one (pd_ret (pd_tup (pda_cons (pd_var 2) (pda_cons (pd_add (pd2_ee (pd_var 3) (PDE.r (pd_ix (pd2_ee (pd_var 1) (PDE.r pd_int)))))) (pda_cons (pd_var 4) (pda_cons (pd_var 5) pda_nil)))))))))), fun ds Pv hl h => L_joined_row h⟩)
theorem ok_in_form {P : Program} {w : World} {K : PySem.W.Frag} {mg : Str → Option Value} {base : Heap} {T : Adr} (B : Txt P K mg T) {f : Addr} {fd : FuncData} (F : Fun K "in_form" "in_form" s_in_form f fd) (c_is_same : Cal P w K mg base 3 "is_same" (SpD K 2 (S_is_same T))) (c_joined_row : Cal P w K mg base 4 "joined_row" (SpD K 2 (S_joined_row T))) : FnOk P w K mg base (L2.CX P w) 5 f fd ["rows"] (SpD K 1 (S_in_form T)) := by
  have hmu : (none : Option Addr) = none := rfl
  refine okD F sc_in_form rfl (fun cdv A outer s H E G XP ex hr tk => ⟨_, w_in_form T XP, (pds_cons (pd_set 1 sc_in_form.nd rfl (by first | exact .inl rfl | exact .inr rfl) (pd_lstO pda_nil)) (pds_cons (pd_for (wbd := (w_in_form_1 T XP)) (passes_of rfl) (pdi_list (pd_var 0)) (pdg_name 2 sc_in_form.nd rfl (by first | exact .inl rfl | exact .inr rfl)) (pds_cons (pd_ifS (pdt_val (pd_call c_is_same hr (by decide) rfl tk (pda_cons (pd_ix (pd2_ee (pd_var 2) (PDE.r pd_int))) (pda_cons pd_int pda_nil)))) (pds_one pd_cont) pds_nil) (pds_cons (pd_set 3 sc_in_form.nd rfl (by first | exact .inl rfl | exact .inr rfl) (PDE.x (pd_if (pdt_ne hr (pd2_oe 1 (PDX.e (pd_lstO pda_nil)))) (pd_call c_joined_row hr (by decide) rfl tk (pda_cons (pd_ix (pd2_oe 1 (pd_neg pd_int))) (pda_cons (pd_var 2) pda_nil))) pd_non))) (pds_one (pd_ifS (pdt_isN (pd_var 3)) (pds_one (pd_app 1 (pd_tup (pda_star (pd_sl (pd_var 2) pdo_none (pdo_some pd_int)) (pda_cons (pd_if (pdt_val (pd_call c_is_same hr (by decide) rfl tk (pda_cons (pd_ix (pd2_ee (pd_var 2) (PDE.r pd_int))) (pda_cons pd_int pda_nil)))) pd_int (pd_ix (pd2_ee (pd_var 2) (PDE.r pd_int)))) pda_nil))))) (pds_one (pd_setIx 1 (pd_var 3) (pd_neg pd_int)))))))) (pds_one (pd_ret (pd_frz 1))))), fun ds Pv hl h => L_in_form h⟩)
theorem ok_pieces {P : Program} {w : World} {K : PySem.W.Frag} {mg : Str → Option Value} {base : Heap} {T : Adr} (B : Txt P K mg T) {f : Addr} {fd : FuncData} (F : Fun K "pieces" "pieces" s_pieces f fd) (c_is_less : Cal P w K mg base 3 "is_less" (SpD K 2 (S_is_less T))) (c_greater : Cal P w K mg base 4 "greater" (SpD K 2 (S_greater T))) (c_lesser : Cal P w K mg base 4 "lesser" (SpD K 2 (S_lesser T))) : FnOk P w K mg base (L2.CX P w) 5 f fd ["row", "others"] (SpD K 2 (S_pieces T)) := by
  have hmu : (none : Option Addr) = none := rfl
  refine okD F sc_pieces rfl (fun cdv A outer s H E G XP ex hr tk => ⟨_, w_pieces T XP, (pds_cons (pd_asg (pd_var 0) (pdg_tup rfl (pdgs_cons (pdg_name 3 sc_pieces.nd rfl (by first | exact .inl rfl | exact .inr rfl)) (pdgs_cons (pdg_name 4 sc_pieces.nd rfl (by first | exact .inl rfl | exact .inr rfl)) (pdgs_cons (pdg_name 5 sc_pieces.nd rfl (by first | exact .inl rfl | exact .inr rfl)) (pdgs_cons (pdg_name 6 sc_pieces.nd rfl (by first | exact .inl rfl | exact .inr rfl)) pdgs_nil)))))) (pds_cons (pd_set 2 sc_pieces.nd rfl (by first | exact .inl rfl | exact .inr rfl) (pd_lstO pda_nil)) (pds_cons (pd_for (wbd := (w_pieces_1 T XP)) (passes_of rfl) (pdi_tup (pd_if (pdt_cmp op_gt opd_B (pd2_ee (pd_var 6) (PDE.r pd_int)) (nomark _)) (pd_var 1) (pd_revT (pd_var 1)))) (pdg_tup rfl (pdgs_cons (pdg_name 7 sc_pieces.nd rfl (by first | exact .inl rfl | exact .inr rfl)) (pdgs_cons (pdg_name 8 sc_pieces.nd rfl (by first | exact .inl rfl | exact .inr rfl)) (pdgs_cons (pdg_name 9 sc_pieces.nd rfl (by first | exact .inl rfl | exact .inr rfl)) (pdgs_cons (pdg_name 10 sc_pieces.nd rfl (by first | exact .inl rfl | exact .inr rfl)) pdgs_nil))))) (pds_cons (pd_set 11 sc_pieces.nd rfl (by first | exact .inl rfl | exact .inr rfl) (PDE.x (pd_if (pdt_cmp op_gt opd_B (pd2_ee (pd_var 6) (PDE.r pd_int)) (nomark _)) (pd_var 5) (pd_add (pd2_ee (pd_sub (pd2_ee (pd_var 5) (PDE.r (pd_var 4)))) (PDE.r pd_int)))))) (pds_cons (pd_par 12 13 (PDE.x (pd_call c_greater hr (by decide) rfl tk (pda_cons (pd_var 11) (pda_cons (pd_var 7) pda_nil)))) (PDE.x (pd_call c_lesser hr (by decide) rfl tk (pda_cons (pd_add (pd2_ee (pd_var 11) (PDE.r (pd_var 4)))) (pda_cons (pd_add (pd2_ee (pd_var 7) (PDE.r (pd_var 8)))) pda_nil)))) rfl sc_pieces.nd rfl rfl (by decide) rfl rfl rfl) (pds_cons (pd_ifS (pdt_not (pdt_val (pd_call c_is_less hr (by decide) rfl tk (pda_cons (pd_var 12) (pda_cons (pd_var 13) pda_nil))))) (pds_one pd_cont) pds_nil) (pds_one (pd_ifS (pdt_cmp op_gt opd_B (pd2_ee (pd_var 6) (PDE.r pd_int)) (nomark _)) (pds_one (pd_app 2 (pd_tup (pda_cons (pd_add (pd2_ee (pd_var 3) (PDE.r (pd_sub (pd2_ee (pd_var 12) (PDE.r (pd_var 5))))))) (pda_cons (pd_sub (pd2_ee (pd_var 13) (PDE.r (pd_var 12)))) (pda_cons (pd_add (pd2_ee (pd_var 9) (PDE.r (pd_mul (pd2_ee (pd_var 10) (PDE.r (pd_sub (pd2_ee (pd_var 12) (PDE.r (pd_var 7)))))))))) (pda_cons (pd_var 10) pda_nil))))))) (pds_one (pd_app 2 (pd_tup (pda_cons (pd_add (pd2_ee (pd_var 3) (PDE.r (pd_add (pd2_ee (pd_sub (pd2_ee (pd_var 5) (PDE.r (pd_var 13)))) (PDE.r pd_int)))))) (pda_cons (pd_sub (pd2_ee (pd_var 13) (PDE.r (pd_var 12)))) (pda_cons (pd_add (pd2_ee (pd_var 9) (PDE.r (pd_mul (pd2_ee (pd_var 10) (PDE.r (pd_sub (pd2_ee (pd_sub (pd2_ee (pd_var 13) (PDE.r pd_int))) (PDE.r (pd_var 7)))))))))) (pda_cons (pd_neg (pd_var 10)) pda_nil))))))))))))) (pds_one (pd_ret (pd_frz 2)))))), fun ds Pv hl h => L_pieces h⟩)
theorem ok_by_start {P : Program} {w : World} {K : PySem.W.Frag} {mg : Str → Option Value} {base : Heap} {T : Adr} (B : Txt P K mg T) {f : Addr} {fd : FuncData} (F : Fun K "by_start" "by_start" s_by_start f fd) (c_is_less : Cal P w K mg base 3 "is_less" (SpD K 2 (S_is_less T))) : FnOk P w K mg base (L2.CX P w) 4 f fd ["rows"] (SpD K 1 (S_by_start T)) := by
  have hmu : (none : Option Addr) = none := rfl
  refine okD F sc_by_start rfl (fun cdv A outer s H E G XP ex hr tk => ⟨_, w_by_start T XP, (pds_cons (pd_set 1 sc_by_start.nd rfl (by first | exact .inl rfl | exact .inr rfl) (pd_lstO pda_nil)) (pds_cons (pd_for (wbd := (w_by_start_1 T XP)) (passes_of rfl) (pdi_list (pd_var 0)) (pdg_name 2 sc_by_start.nd rfl (by first | exact .inl rfl | exact .inr rfl)) (pds_cons (pd_set 3 sc_by_start.nd rfl (by first | exact .inl rfl | exact .inr rfl) (PDE.x (pd_len B.b_len (PDE.r (PDX.e (pd_lcO 1 (own := [("one", 4)]) sc_by_start.nd (blkOk_by (by rfl)) (fun _ _ _ _ _ => by exact (pdgp_name 4 (by decide) sc_by_start.nd rfl (by first | exact .inl rfl | exact .inr rfl))) (fun _ _ _ _ _ => by exact (pdts_one (pdt_val (pd_call c_is_less hr (by decide) rfl takes0 (pda_cons (pd_ix (pd2_ee (pd_var 4) (PDE.r pd_int))) (pda_cons (pd_ix (pd2_ee (pd_var 2) (PDE.r pd_int))) pda_nil)))))) (fun _ _ _ _ _ => by exact (pd_var 4)))))))) (pds_one (pd_insert 1 (pd_var 3) (pd_var 2))))) (pds_one (pd_ret (pd_frz 1))))), fun ds Pv hl h => L_by_start h⟩)
theorem ok_Runs_init {P : Program} {w : World} {K : PySem.W.Frag} {mg : Str → Option Value} {base : Heap} {T : Adr} (B : Txt P K mg T) {f : Addr} {fd : FuncData} (F : Fun K "__init__" "Runs.__init__" s_Runs_init f fd) (c_in_form : Cal P w K mg base 5 "in_form" (SpD K 1 (S_in_form T))) : FnOk P w K mg base (L2.CX P w) 6 f fd ["self", "rows"] (SpI K T.Runs 1 (S_Runs_init T)) := by
  refine okI F sc_Runs_init rfl (fun cdv A outer s H E G x0 XP ex hr tk => ⟨_, w_Runs_init T XP, (pds_cons (pd_meSet 0 (nm := []) B.c_Runs B.n_Runs_rows (by decide +kernel) (by decide +kernel) (pd_tupOf B.b_tuple (PDE.r (pd_call c_in_form hr (by decide) rfl tk (pda_cons (PDX.e (pd_lstOf B.b_list (PDE.r (pd_var 1)))) pda_nil))))) (pds_one (pd_meSet 0 (nm := ["rows"]) B.c_Runs B.n_Runs_size (by decide +kernel) (by decide +kernel) (pd_add (pd2_ee (pd_ix (pd2_ee (pd_ix (pd2_ee (pd_meF 0 (nm := ["rows"]) 0 B.c_Runs B.n_Runs_rows rfl (by decide +kernel)) (PDE.r (pd_neg pd_int)))) (PDE.r pd_int))) (PDE.r (pd_ix (pd2_ee (pd_ix (pd2_ee (pd_meF 0 (nm := ["rows"]) 0 B.c_Runs B.n_Runs_rows rfl (by decide +kernel)) (PDE.r (pd_neg pd_int)))) (PDE.r pd_int))))))))), fun ds Pv hl h => L_Runs_init h⟩)
theorem ok_Runs_mul {P : Program} {w : World} {K : PySem.W.Frag} {mg : Str → Option Value} {base : Heap} {T : Adr} (B : Txt P K mg T) {f : Addr} {fd : FuncData} (F : Fun K "__mul__" "Runs.__mul__" s_Runs_mul f fd) (c_is_same : Cal P w K mg base 3 "is_same" (SpD K 2 (S_is_same T))) (c_pieces : Cal P w K mg base 5 "pieces" (SpD K 2 (S_pieces T))) (m_Runs : Mak P w K mg base 6 "Runs" T.Runs 1 (S_Runs_init T)) : FnOk P w K mg base (L2.CX P w) 8 f fd ["self", "other"] (SpD K 2 (S_Runs_mul T)) := by
  have hmu : (none : Option Addr) = none := rfl
  refine okD F sc_Runs_mul rfl (fun cdv A outer s H E G XP ex hr tk => ⟨_, w_Runs_mul T XP, (pds_cons (pd_ifS (pdt_not (pdt_val (pd_call c_is_same hr (by decide) rfl tk (pda_cons (pd_fld (nm := nmRuns) 1 B.c_Runs B.n_Runs_size rfl (by decide +kernel) (pd_var 1)) (pda_cons (pd_fld (nm := nmRuns) 1 B.c_Runs B.n_Runs_size rfl (by decide +kernel) (pd_var 0)) pda_nil))))) (pds_one (pd_raise B.r_BadSize hr rfl tk (pd_fld (nm := nmRuns) 1 B.c_Runs B.n_Runs_size rfl (by decide +kernel) (pd_var 1)))) pds_nil) (pds_one (pd_ret (pd_make m_Runs hr (by decide) tk (pda_cons (PDX.e (pd_lc2 (own := [("row", 2), ("piece", 3)]) (vs1 := [3]) sc_Runs_mul.nd (pdi_tup (pd_fld (nm := nmRuns) 0 B.c_Runs B.n_Runs_rows rfl (by decide +kernel) (pd_var 1))) (blkOk_by (by rfl)) (by decide) (fun _ _ _ _ _ => by exact (pdgp_name 2 (by decide) sc_Runs_mul.nd rfl (by first | exact .inl rfl | exact .inr rfl))) (fun _ _ _ _ _ => by exact pdts_nil) (fun _ _ _ _ _ => by exact (pdi_list (pd_call c_pieces hr (by decide) rfl takes0 (pda_cons (pd_var 2) (pda_cons (pd_fld (nm := nmRuns) 0 B.c_Runs B.n_Runs_rows rfl (by decide +kernel) (pd_var 0)) pda_nil))))) (fun _ _ _ _ _ => by exact (pdgp_name 3 (by decide) sc_Runs_mul.nd rfl (by first | exact .inl rfl | exact .inr rfl))) (fun _ _ _ _ _ => by exact pdts_nil) (fun _ _ _ _ _ => by exact (pd_var 3)))) pda_nil))))), fun ds Pv hl h => L_Runs_mul h⟩)
theorem ok_Runs_invert {P : Program} {w : World} {K : PySem.W.Frag} {mg : Str → Option Value} {base : Heap} {T : Adr} (B : Txt P K mg T) {f : Addr} {fd : FuncData} (F : Fun K "__invert__" "Runs.__invert__" s_Runs_invert f fd) (c_by_start : Cal P w K mg base 4 "by_start" (SpD K 1 (S_by_start T))) (m_Runs : Mak P w K mg base 6 "Runs" T.Runs 1 (S_Runs_init T)) : FnOk P w K mg base (L2.CX P w) 8 f fd ["self"] (SpD K 1 (S_Runs_invert T)) := by
  have hmu : (none : Option Addr) = none := rfl
  refine okD F sc_Runs_invert rfl (fun cdv A outer s H E G XP ex hr tk => ⟨_, w_Runs_invert T XP, (pds_cons (pd_set 1 sc_Runs_invert.nd rfl (by first | exact .inl rfl | exact .inr rfl) (pd_lstO pda_nil)) (pds_cons (pd_for (wbd := (w_Runs_invert_1 T XP)) (passes_of rfl) (pdi_tup (pd_fld (nm := nmRuns) 0 B.c_Runs B.n_Runs_rows rfl (by decide +kernel) (pd_var 0))) (pdg_tup rfl (pdgs_cons (pdg_name 2 sc_Runs_invert.nd rfl (by first | exact .inl rfl | exact .inr rfl)) (pdgs_cons (pdg_name 3 sc_Runs_invert.nd rfl (by first | exact .inl rfl | exact .inr rfl)) (pdgs_cons (pdg_name 4 sc_Runs_invert.nd rfl (by first | exact .inl rfl | exact .inr rfl)) (pdgs_cons (pdg_name 5 sc_Runs_invert.nd rfl (by first | exact .inl rfl | exact .inr rfl)) pdgs_nil))))) (pds_one (pd_app 1 (pd_if (pdt_cmp op_gt opd_B (pd2_ee (pd_var 5) (PDE.r pd_int)) (nomark _)) (pd_tup (pda_cons (pd_var 4) (pda_cons (pd_var 3) (pda_cons (pd_var 2) (pda_cons pd_int pda_nil))))) (pd_tup (pda_cons (pd_add (pd2_ee (pd_sub (pd2_ee (pd_var 4) (PDE.r (pd_var 3)))) (PDE.r pd_int))) (pda_cons (pd_var 3) (pda_cons (pd_sub (pd2_ee (pd_add (pd2_ee (pd_var 2) (PDE.r (pd_var 3)))) (PDE.r pd_int))) (pda_cons (pd_neg pd_int) pda_nil))))))))) (pds_one (pd_ret (pd_make m_Runs hr (by decide) tk (pda_cons (pd_call c_by_start hr (by decide) rfl tk (pda_cons (pd_frz 1) pda_nil)) pda_nil)))))), fun ds Pv hl h => L_Runs_invert h⟩)
theorem ok_need_row {P : Program} {w : World} {K : PySem.W.Frag} {mg : Str → Option Value} {base : Heap} {T : Adr} (B : Txt P K mg T) {f : Addr} {fd : FuncData} (F : Fun K "need_row" "need_row" s_need_row f fd) (c_is_integer : Cal P w K mg base 1 "is_integer" (SpD K 1 (S_is_integer T))) : FnOk P w K mg base (L2.CX P w) 2 f fd ["row"] (SpD K 1 (S_need_row T)) := by
  have hmu : (none : Option Addr) = none := rfl
  refine okD F sc_need_row rfl (fun cdv A outer s H E G XP ex hr tk => ⟨_, w_need_row T XP, (pds_cons (pd_set 1 sc_need_row.nd rfl (by first | exact .inl rfl | exact .inr rfl) (pd_dictO hmu)) (pds_one (pd_for (wbd := (w_need_row_1 T XP)) (passes_of rfl) (pdi_enum B.b_enumerate (pd_var 0)) (pdg_tup rfl (pdgs_cons (pdg_name 2 sc_need_row.nd rfl (by first | exact .inl rfl | exact .inr rfl)) (pdgs_cons (pdg_name 3 sc_need_row.nd rfl (by first | exact .inl rfl | exact .inr rfl)) pdgs_nil))) (pds_cons (pd_ifS (PDW.pt (pdw_or (pdt_not (pdt_val (pd_call c_is_integer hr (by decide) rfl tk (pda_cons (pd_var 3) pda_nil)))) (pdw_or (pdt_not (pdt_chain op_le op_lt pd_int (pd_var 3) (pd_len B.b_len (PDE.r (pd_var 0))))) (pdw_or1 (pdt_din 1 hr (pd_var 3)))))) (pds_one pd_never) pds_nil) (pds_one (pd_dput 1 hr pd_bl (pd_var 3))))))), fun ds Pv hl h => L_need_row h⟩)
theorem ok_runs_of_list {P : Program} {w : World} {K : PySem.W.Frag} {mg : Str → Option Value} {base : Heap} {T : Adr} (B : Txt P K mg T) {f : Addr} {fd : FuncData} (F : Fun K "runs_of_list" "runs_of_list" s_runs_of_list f fd) (m_Runs : Mak P w K mg base 6 "Runs" T.Runs 1 (S_Runs_init T)) (c_need_row : Cal P w K mg base 2 "need_row" (SpD K 1 (S_need_row T))) : FnOk P w K mg base (L2.CX P w) 8 f fd ["places"] (SpD K 1 (S_runs_of_list T)) := by
  have hmu : (none : Option Addr) = none := rfl
  refine okD F sc_runs_of_list rfl (fun cdv A outer s H E G XP ex hr tk => ⟨_, w_runs_of_list T XP, (pds_cons (pd_expr (pd_call c_need_row hr (by decide) rfl tk (pda_cons (pd_var 0) pda_nil))) (pds_cons (pd_ifS (pdt_not (pdt_chain op_le op_le pd_int (pd_len B.b_len (PDE.r (pd_var 0))) (pd_glob rfl B.g_MOST_SIZE fun _ _ => .int _))) (pds_one (pd_raise B.r_BadSize hr rfl tk (pd_len B.b_len (PDE.r (pd_var 0))))) pds_nil) (pds_one (pd_ret (pd_make m_Runs hr (by decide) tk (pda_cons (PDX.e (pd_lc (own := [("at", 1), ("place", 2)]) sc_runs_of_list.nd (pdi_enum B.b_enumerate (pd_var 0)) (blkOk_by (by rfl)) (fun _ _ _ _ _ => by exact (pdgp_tup rfl (pdgps_cons (pdgp_name 1 (by decide) sc_runs_of_list.nd rfl (by first | exact .inl rfl | exact .inr rfl)) (pdgps_cons (pdgp_name 2 (by decide) sc_runs_of_list.nd rfl (by first | exact .inl rfl | exact .inr rfl)) pdgps_nil)))) (fun _ _ _ _ _ => by exact pdts_nil) (fun _ _ _ _ _ => by exact (pd_tup (pda_cons (pd_var 1) (pda_cons pd_int (pda_cons (pd_var 2) (pda_cons pd_int pda_nil)))))))) pda_nil)))))), fun ds Pv hl h => L_runs_of_list h⟩)
theorem ok__law_form {P : Program} {w : World} {K : PySem.W.Frag} {mg : Str → Option Value} {base : Heap} {T : Adr} (B : Txt P K mg T) {f : Addr} {fd : FuncData} (F : Fun K "_law_form" "_law_form" s__law_form f fd) : FnOk P w K mg base (L2.CX P w) 1 f fd ["row"] (SpD K 1 (S__law_form T)) := by
  have hmu : (none : Option Addr) = none := rfl
  refine okD F sc__law_form rfl (fun cdv A outer s H E G XP ex hr tk => ⟨_, w__law_form T XP, (pds_cons (pd_par 2 3 (pd_lstO pda_nil) (PDE.x pd_int) rfl sc__law_form.nd rfl rfl (by decide) rfl rfl rfl) (pds_cons (pd_for (wbd := (w__law_form_3 T XP)) (passes_of rfl) (pdi_range1 B.b_range (pd_len B.b_len (PDE.r (pd_var 0)))) (pdg_name 1 sc__law_form.nd rfl (by first | exact .inl rfl | exact .inr rfl)) (pds_one (pd_ifS (pdt_cmp op_lt opd_B (pd2_ee (pd_var 3) (PDE.r (pd_len B.b_len (PDE.r (pd_var 0))))) (nomark _)) (pds_cons (pd_asg (pd_tup (pda_cons pd_int (pda_cons pd_int pda_nil))) (pdg_tup rfl (pdgs_cons (pdg_name 5 sc__law_form.nd rfl (by first | exact .inl rfl | exact .inr rfl)) (pdgs_cons (pdg_name 6 sc__law_form.nd rfl (by first | exact .inl rfl | exact .inr rfl)) pdgs_nil)))) (pds_cons (w' := (w__law_form_2 T XP)) (pd_ifS (PDW.pt (pdw_and (pdt_cmp op_lt opd_B (pd2_ee (pd_add (pd2_ee (pd_var 3) (PDE.r pd_int))) (PDE.r (pd_len B.b_len (PDE.r (pd_var 0))))) (nomark _)) (pdw_and1 (pdt_eq hr (pd2_ee (pd_ix (pd2_ee (pd_var 0) (PDE.r (pd_add (pd2_ee (pd_var 3) (PDE.r pd_int)))))) (PDE.r (pd_sub (pd2_ee (pd_ix (pd2_ee (pd_var 0) (PDE.r (pd_var 3)))) (PDE.r pd_int))))))))) (pds_one (pd_set 6 sc__law_form.nd rfl (by first | exact .inl rfl | exact .inr rfl) (PDE.x (pd_neg pd_int)))) pds_nil) (pds_cons (pd_for (wbd := (w__law_form_1 T XP)) (passes_of rfl) (pdi_range2 B.b_range (pd_add (pd2_ee (pd_var 3) (PDE.r pd_int))) (pd_len B.b_len (PDE.r (pd_var 0)))) (pdg_name 4 sc__law_form.nd rfl (by first | exact .inl rfl | exact .inr rfl)) (pds_one (pd_ifS (PDW.pt (pdw_and (pdt_eq hr (pd2_ee (pd_var 4) (PDE.r (pd_add (pd2_ee (pd_var 3) (PDE.r (pd_var 5))))))) (pdw_and1 (pdt_eq hr (pd2_ee (pd_ix (pd2_ee (pd_var 0) (PDE.r (pd_var 4)))) (PDE.r (pd_add (pd2_ee (pd_ix (pd2_ee (pd_var 0) (PDE.r (pd_var 3)))) (PDE.r (pd_mul (pd2_ee (pd_var 6) (PDE.r (pd_var 5))))))))))))) (pds_one (pd_set 5 sc__law_form.nd rfl (by first | exact .inl rfl | exact .inr rfl) (PDE.x (pd_add (pd2_ee (pd_var 5) (PDE.r pd_int)))))) pds_nil))) (pds_cons (pd_app 2 (pd_tup (pda_cons (pd_var 3) (pda_cons (pd_var 5) (pda_cons (pd_ix (pd2_ee (pd_var 0) (PDE.r (pd_var 3)))) (pda_cons (pd_if (pdt_cmp op_gt opd_B (pd2_ee (pd_var 5) (PDE.r pd_int)) (nomark _)) (pd_var 6) pd_int) pda_nil)))))) (pds_one (pd_set 3 sc__law_form.nd rfl (by first | exact .inl rfl | exact .inr rfl) (PDE.x (pd_add (pd2_ee (pd_var 3) (PDE.r (pd_var 5))))))))))) pds_nil))) (pds_one (pd_ret (pd_frz 2))))), fun ds Pv hl h => L_law_form h⟩)
theorem ok__law_after {P : Program} {w : World} {K : PySem.W.Frag} {mg : Str → Option Value} {base : Heap} {T : Adr} (B : Txt P K mg T) {f : Addr} {fd : FuncData} (F : Fun K "_law_after" "_law_after" s__law_after f fd) : FnOk P w K mg base (L2.CX P w) 1 f fd ["row", "things"] (SpD K 2 (S__law_after T)) := by
  have hmu : (none : Option Addr) = none := rfl
  refine okD F sc__law_after rfl (fun cdv A outer s H E G XP ex hr tk => ⟨_, w__law_after T XP, (pds_one (pd_ret (PDX.e (pd_lc (own := [("part", 2)]) sc__law_after.nd (pdi_list (pd_var 0)) (blkOk_by (by rfl)) (fun _ _ _ _ _ => by exact (pdgp_name 2 (by decide) sc__law_after.nd rfl (by first | exact .inl rfl | exact .inr rfl))) (fun _ _ _ _ _ => by exact pdts_nil) (fun _ _ _ _ _ => by exact (pd_ix (pd2_ee (pd_var 1) (PDE.r (pd_var 2))))))))), fun ds Pv hl h => L_law_after h⟩)
theorem ok__law_draw {P : Program} {w : World} {K : PySem.W.Frag} {mg : Str → Option Value} {base : Heap} {T : Adr} (B : Txt P K mg T) {f : Addr} {fd : FuncData} (F : Fun K "_law_draw" "_law_draw" s__law_draw f fd) : FnOk P w K mg base (L2.CX P w) 1 f fd ["pen", "many"] (SpP K 1 (S__law_draw T)) := by
  refine okDraw F sc__law_draw rfl (fun cdv A outer s H E G x0 hr => ⟨_, w__law_draw T XP0, (pds_cons (w' := (w__law_draw_7 T XP0)) (pd_ifS (pdt_cmp op_ge opd_B (pd2_ee (pd_kget 0 hr) (PDE.r (pd_var 1))) (nomark _)) (pds_cons (pd_set 5 sc__law_draw.nd rfl (by first | exact .inl rfl | exact .inr rfl) (PDE.x (pd_mod (pd2_ee (pd_intOf B.b_int (PDE.r (pd_kget 0 hr))) (PDE.r (pd_var 1)))))) (pds_cons (pd_kset 0 hr (pd_div (pd2_ee (pd_kget 0 hr) (PDE.r (pd_var 1))))) (pds_one (pd_ret (pd_var 5))))) pds_nil) (pds_cons (pd_set 2 sc__law_draw.nd rfl (by first | exact .inl rfl | exact .inr rfl) (PDE.x (pd_kget 0 hr))) (pds_cons (pd_kset 0 hr (pd_add (pd2_ee (pd_var 2) (PDE.r pd_int)))) (pds_cons (w' := (w__law_draw_6 T XP0)) (pd_set 3 sc__law_draw.nd rfl (by first | exact .inl rfl | exact .inr rfl) (PDE.x (pd_add (pd2_ee (pd_mul (pd2_ee pd_int (PDE.r (pd_var 2)))) (PDE.r pd_int))))) (pds_cons (w' := (w__law_draw_5 T XP0)) (pd_ifS (pdt_ne hr (pd2_ee (pd_kget 0 hr) (PDE.r (PDX.e (pd_lstO pda_nil))))) (pds_one (pd_set 3 sc__law_draw.nd rfl (by first | exact .inl rfl | exact .inr rfl) (PDE.x (pd_ix (pd2_ee (pd_kget 0 hr) (PDE.r (pd_mod (pd2_ee (pd_intOf B.b_int (PDE.r (pd_var 2))) (PDE.r (pd_len B.b_len (PDE.r (pd_kget 0 hr)))))))))))) pds_nil) (pds_cons (w' := (w__law_draw_4 T XP0)) (pd_ifS (PDW.pt (pdw_and (pdt_cmp op_lt opd_B (pd2_ee (pd_var 2) (PDE.r (pd_len B.b_len (PDE.r (pd_kget 0 hr))))) (nomark _)) (pdw_and1 (pdt_cmp op_ge opd_B (pd2_ee (pd_var 3) (PDE.r (pd_pow (pd2_ee pd_int (PDE.r pd_int))))) (nomark _))))) (pds_cons (pd_kset 0 hr (pd_div (pd2_ee (pd_sub (pd2_ee (pd_var 3) (PDE.r (pd_pow (pd2_ee pd_int (PDE.r pd_int)))))) (PDE.r (pd_var 1))))) (pds_one (pd_ret (pd_mod (pd2_ee (pd_intOf B.b_int (PDE.r (pd_sub (pd2_ee (pd_var 3) (PDE.r (pd_pow (pd2_ee pd_int (PDE.r pd_int)))))))) (PDE.r (pd_var 1))))))) pds_nil) (pds_cons (w' := (w__law_draw_3 T XP0)) (pd_set 4 sc__law_draw.nd rfl (by first | exact .inl rfl | exact .inr rfl) (PDE.x (pd_add (pd2_ee (pd_add (pd2_ee (pd_add (pd2_ee (pd_mul (pd2_ee (pd_mod (pd2_ee (pd_intOf B.b_int (PDE.r (pd_var 3))) (PDE.r pd_int))) (PDE.r pd_int))) (PDE.r (pd_mul (pd2_ee (pd_mul (pd2_ee pd_int (PDE.r (pd_var 2)))) (PDE.r (pd_var 2))))))) (PDE.r (pd_mul (pd2_ee pd_int (PDE.r (pd_var 2))))))) (PDE.r pd_int))))) (pds_cons (w' := (w__law_draw_2 T XP0)) (pd_set 4 sc__law_draw.nd rfl (by first | exact .inl rfl | exact .inr rfl) (PDE.x (pd_mod (pd2_ee (pd_intOf B.b_int (PDE.r (pd_var 4))) (PDE.r pd_int))))) (pds_cons (w' := (w__law_draw_1 T XP0)) (pd_set 4 sc__law_draw.nd rfl (by first | exact .inl rfl | exact .inr rfl) (PDE.x (pd_mod (pd2_ee (pd_intOf B.b_int (PDE.r (pd_mul (pd2_ee (pd_var 4) (PDE.r (pd_add (pd2_ee (pd_var 4) (PDE.r pd_int)))))))) (PDE.r pd_int))))) (pds_one (pd_ret (pd_mod (pd2_ee (pd_intOf B.b_int (PDE.r (pd_div (pd2_ee (pd_mod (pd2_ee (pd_intOf B.b_int (PDE.r (pd_mul (pd2_ee (pd_var 4) (PDE.r (pd_var 4)))))) (PDE.r pd_int))) (PDE.r pd_int))))) (PDE.r (pd_var 1))))))))))))))), fun m ds Pv ns at_ left hl h h1 h2 h3 h4 => L_law_draw h h1 h2 h3 h4⟩)
theorem ok__law_shuffled {P : Program} {w : World} {K : PySem.W.Frag} {mg : Str → Option Value} {base : Heap} {T : Adr} (B : Txt P K mg T) {f : Addr} {fd : FuncData} (F : Fun K "_law_shuffled" "_law_shuffled" s__law_shuffled f fd) (c__law_draw : Cal P w K mg base 1 "_law_draw" (SpP K 1 (S__law_draw T))) : FnOk P w K mg base (L2.CX P w) 2 f fd ["pen", "some"] (SpP K 1 (S__law_shuffled T)) := by
  refine okP F sc__law_shuffled rfl (fun cdv A outer s H E G x0 hr => ⟨_, w__law_shuffled T XP0, (pds_cons (pd_par 3 4 (pd_lstOf B.b_list (PDE.r (pd_var 1))) (pd_lstO pda_nil) rfl sc__law_shuffled.nd rfl rfl (by decide) rfl rfl rfl) (pds_cons (pd_for (wbd := (w__law_shuffled_1 T XP0)) (passes_of rfl) (pdi_range1 B.b_range (pd_len B.b_len (pd_own 3))) (pdg_name 2 sc__law_shuffled.nd rfl (by first | exact .inl rfl | exact .inr rfl)) (pds_one (pd_app 4 (pd_pop 3 (pd_callP 0 c__law_draw hr (by decide) rfl takes0 (pda_cons (pd_len B.b_len (pd_own 3)) pda_nil)))))) (pds_one (pd_ret (pd_frz 4))))), fun m ds Pv hl h => L_law_shuffled h⟩)
theorem ok__law_row {P : Program} {w : World} {K : PySem.W.Frag} {mg : Str → Option Value} {base : Heap} {T : Adr} (B : Txt P K mg T) {f : Addr} {fd : FuncData} (F : Fun K "_law_row" "_law_row" s__law_row f fd) (c__law_shuffled : Cal P w K mg base 2 "_law_shuffled" (SpP K 1 (S__law_shuffled T))) : FnOk P w K mg base (L2.CX P w) 3 f fd ["pen", "size"] (SpP K 1 (S__law_row T)) := by
  refine okP F sc__law_row rfl (fun cdv A outer s H E G x0 hr => ⟨_, w__law_row T XP0, (pds_one (pd_ret (pd_callP 0 c__law_shuffled hr (by decide) rfl takes0 (pda_cons (PDX.e (pd_lstRg1 B.b_list B.b_range (pd_var 1))) pda_nil)))), fun m ds Pv hl h => L_law_row h⟩)
theorem ok__law_blocks {P : Program} {w : World} {K : PySem.W.Frag} {mg : Str → Option Value} {base : Heap} {T : Adr} (B : Txt P K mg T) {f : Addr} {fd : FuncData} (F : Fun K "_law_blocks" "_law_blocks" s__law_blocks f fd) (c__law_draw : Cal P w K mg base 1 "_law_draw" (SpP K 1 (S__law_draw T))) (c__law_shuffled : Cal P w K mg base 2 "_law_shuffled" (SpP K 1 (S__law_shuffled T))) : FnOk P w K mg base (L2.CX P w) 3 f fd ["pen", "size"] (SpP K 1 (S__law_blocks T)) := by
  refine okP F sc__law_blocks rfl (fun cdv A outer s H E G x0 hr => ⟨_, w__law_blocks T XP0, (pds_cons (pd_par3 4 5 6 (PDE.x (PDX.e (pd_lstO pda_nil))) (PDE.x pd_int) (pd_lstO pda_nil) rfl sc__law_blocks.nd rfl rfl rfl (by decide) (by decide) (by decide) rfl rfl rfl rfl) (pds_cons (pd_for (wbd := (w__law_blocks_1 T XP0)) (passes_of rfl) (pdi_range1 B.b_range (pd_var 1)) (pdg_name 2 sc__law_blocks.nd rfl (by first | exact .inl rfl | exact .inr rfl)) (pds_one (pd_ifS (pdt_cmp op_lt opd_B (pd2_ee (pd_var 5) (PDE.r (pd_var 1))) (nomark _)) (pds_cons (pd_set 7 sc__law_blocks.nd rfl (by first | exact .inl rfl | exact .inr rfl) (PDE.x (pd_add (pd2_ee pd_int (PDE.r (pd_callP 0 c__law_draw hr (by decide) rfl takes0 (pda_cons (pd_min2 B.b_min pd_int (pd_intOf B.b_int (PDE.r (pd_sub (pd2_ee (pd_var 1) (PDE.r (pd_var 5))))))) pda_nil))))))) (pds_cons (pd_set 3 sc__law_blocks.nd rfl (by first | exact .inl rfl | exact .inr rfl) (PDE.x (PDX.e (pd_lstRg2 B.b_list B.b_range (pd_var 5) (pd_add (pd2_ee (pd_var 5) (PDE.r (pd_var 7)))))))) (pds_cons (pd_app 6 (pd_if (pdt_eq hr (pd2_ee (pd_callP 0 c__law_draw hr (by decide) rfl takes0 (pda_cons pd_int pda_nil)) (PDE.r pd_int))) (pd_rev (pd_var 3)) (pd_var 3))) (pds_one (pd_set 5 sc__law_blocks.nd rfl (by first | exact .inl rfl | exact .inr rfl) (PDE.x (pd_add (pd2_ee (pd_var 5) (PDE.r (pd_var 7)))))))))) pds_nil))) (pds_cons (pd_for (wbd := (w__law_blocks_2 T XP0)) (passes_of rfl) (pdi_list (pd_callP 0 c__law_shuffled hr (by decide) rfl takes0 (pda_cons (pd_frz 6) pda_nil))) (pdg_name 3 sc__law_blocks.nd rfl (by first | exact .inl rfl | exact .inr rfl)) (pds_one (pd_set 4 sc__law_blocks.nd rfl (by first | exact .inl rfl | exact .inr rfl) (PDE.x (pd_add (pd2_ee (pd_var 4) (PDE.r (pd_var 3)))))))) (pds_one (pd_ret (pd_var 4)))))), fun m ds Pv hl h => L_law_blocks h⟩)
theorem ok__law_pen {P : Program} {w : World} {K : PySem.W.Frag} {mg : Str → Option Value} {base : Heap} {T : Adr} (B : Txt P K mg T) {f : Addr} {fd : FuncData} (F : Fun K "_law_pen" "_law_pen" s__law_pen f fd) : FnOk P w K mg base (L2.CX P w) 1 f fd ["script"] (SpNew K) := by
  exact okPenNew F sc__law_pen rfl (fun cdv A outer s H E G hr => ⟨_, _, _, pd_lstOf B.b_list (PDE.r (pd_sl (pd_var 0) pdo_none (pdo_some pd_int))), fun he => pss_one (ps_ret (pe_disp (pps_cons pe_str he (pps_cons pe_str pe_int (pps_cons pe_str pe_int pps_nil))) rfl rfl (by decide) (by decide))), fun ns => pen_cells ns⟩)
theorem ok_law {P : Program} {w : World} {K : PySem.W.Frag} {mg : Str → Option Value} {base : Heap} {T : Adr} (B : Txt P K mg T) {f : Addr} {fd : FuncData} (F : Fun K "law" "law" s_law f fd) (o_Runs_mul : Opr P w K mg base 8 T.Runs (PySem.dunder (Operator.info .Mult).2) 2 (S_Runs_mul T)) (o_Runs_invert : Opr P w K mg base 8 T.Runs "__invert__" 1 (S_Runs_invert T)) (c_runs_of_list : Cal P w K mg base 8 "runs_of_list" (SpD K 1 (S_runs_of_list T))) (c__law_form : Cal P w K mg base 1 "_law_form" (SpD K 1 (S__law_form T))) (c__law_after : Cal P w K mg base 1 "_law_after" (SpD K 2 (S__law_after T))) (c__law_draw : Cal P w K mg base 1 "_law_draw" (SpP K 1 (S__law_draw T))) (c__law_row : Cal P w K mg base 3 "_law_row" (SpP K 1 (S__law_row T))) (c__law_blocks : Cal P w K mg base 3 "_law_blocks" (SpP K 1 (S__law_blocks T))) (c__law_pen : Cal P w K mg base 1 "_law_pen" (SpNew K)) : FnOk P w K mg base (L2.CX P w) 9 f fd ["script"] (SpD K 1 (S_law T)) := by
  have hmu : (none : Option Addr) = none := rfl
  refine okD F sc_law rfl (fun cdv A outer s H E G XP ex hr tk => ⟨_, w_law T XP, (pds_cons (pd_set 1 sc_law.nd rfl (by first | exact .inl rfl | exact .inr rfl) (pd_penNew c__law_pen hr (by decide) rfl tk (pd_var 0))) (pds_cons (pd_for (wbd := (w_law_13 T XP)) (passes_of rfl) (pdi_range1 B.b_range pd_int) (pdg_name 2 sc_law.nd rfl (by first | exact .inl rfl | exact .inr rfl)) (pds_cons (w' := (w_law_12 T XP)) (pd_set 3 sc_law.nd rfl (by first | exact .inl rfl | exact .inr rfl) (PDE.x (pd_add (pd2_ee pd_int (PDE.r (pd_callP 1 c__law_draw hr (by decide) rfl tk (pda_cons pd_int pda_nil))))))) (pds_cons (w' := (w_law_11 T XP)) (pd_set 4 sc_law.nd rfl (by first | exact .inl rfl | exact .inr rfl) (PDE.x (pd_if (pdt_cmp op_gt opd_B (pd2_ee (pd_callP 1 c__law_draw hr (by decide) rfl tk (pda_cons pd_int pda_nil)) (PDE.r pd_int)) (nomark _)) (pd_callP 1 c__law_blocks hr (by decide) rfl tk (pda_cons (pd_var 3) pda_nil)) (pd_callP 1 c__law_row hr (by decide) rfl tk (pda_cons (pd_var 3) pda_nil))))) (pds_cons (w' := (w_law_10 T XP)) (pd_set 5 sc_law.nd rfl (by first | exact .inl rfl | exact .inr rfl) (PDE.x (pd_if (pdt_cmp op_gt opd_B (pd2_ee (pd_callP 1 c__law_draw hr (by decide) rfl tk (pda_cons pd_int pda_nil)) (PDE.r pd_int)) (nomark _)) (pd_callP 1 c__law_blocks hr (by decide) rfl tk (pda_cons (pd_var 3) pda_nil)) (pd_callP 1 c__law_row hr (by decide) rfl tk (pda_cons (pd_var 3) pda_nil))))) (pds_cons (w' := (w_law_9 T XP)) (pd_par3 7 8 9 (PDE.x (pd_call c_runs_of_list hr (by decide) rfl tk (pda_cons (pd_var 4) pda_nil))) (PDE.x (pd_call c_runs_of_list hr (by decide) rfl tk (pda_cons (pd_var 5) pda_nil))) (pd_repO (pd_lstO (pda_cons pd_int pda_nil)) (pd_var 3)) rfl sc_law.nd rfl rfl rfl (by decide) (by decide) (by decide) rfl rfl rfl rfl) (pds_cons (w' := (w_law_8 T XP)) (pd_for (wbd := (w_law_1 T XP)) (passes_of rfl) (pdi_enum B.b_enumerate (pd_var 4)) (pdg_tup rfl (pdgs_cons (pdg_name 10 sc_law.nd rfl (by first | exact .inl rfl | exact .inr rfl)) (pdgs_cons (pdg_name 11 sc_law.nd rfl (by first | exact .inl rfl | exact .inr rfl)) pdgs_nil))) (pds_one (pd_setIx 9 (pd_var 10) (pd_var 11)))) (pds_cons (w' := (w_law_7 T XP)) (pd_ifS (pdt_ne hr (pd2_ee (pd_fld (nm := nmRuns) 0 B.c_Runs B.n_Runs_rows rfl (by decide +kernel) (pd_binO (op := .Mult) o_Runs_mul B.s_Runs hr (by decide) tk (pd_var 7) (pd_var 8))) (PDE.r (pd_tupOf B.b_tuple (PDE.r (pd_call c__law_form hr (by decide) rfl tk (pda_cons (pd_call c__law_after hr (by decide) rfl tk (pda_cons (pd_var 5) (pda_cons (pd_var 4) pda_nil))) pda_nil))))))) (pds_one (pd_ret pd_bl)) pds_nil) (pds_cons (w' := (w_law_6 T XP)) (pd_ifS (pdt_ne hr (pd2_ee (pd_fld (nm := nmRuns) 0 B.c_Runs B.n_Runs_rows rfl (by decide +kernel) (pd_binO (op := .Mult) o_Runs_mul B.s_Runs hr (by decide) tk (pd_var 8) (pd_var 7))) (PDE.r (pd_tupOf B.b_tuple (PDE.r (pd_call c__law_form hr (by decide) rfl tk (pda_cons (pd_call c__law_after hr (by decide) rfl tk (pda_cons (pd_var 4) (pda_cons (pd_var 5) pda_nil))) pda_nil))))))) (pds_one (pd_ret pd_bl)) pds_nil) (pds_cons (w' := (w_law_5 T XP)) (pd_ifS (PDW.pt (pdw_or (pdt_ne hr (pd2_ee (pd_fld (nm := nmRuns) 0 B.c_Runs B.n_Runs_rows rfl (by decide +kernel) (pd_inv o_Runs_invert hr (by decide) tk (pd_var 7))) (PDE.r (pd_tupOf B.b_tuple (PDE.r (pd_call c__law_form hr (by decide) rfl tk (pda_cons (pd_frz 9) pda_nil))))))) (pdw_or (pdt_ne hr (pd2_ee (pd_fld (nm := nmRuns) 0 B.c_Runs B.n_Runs_rows rfl (by decide +kernel) (pd_var 7)) (PDE.r (pd_tupOf B.b_tuple (PDE.r (pd_call c__law_form hr (by decide) rfl tk (pda_cons (pd_var 4) pda_nil))))))) (pdw_or1 (pdt_ne hr (pd2_ee (pd_fld (nm := nmRuns) 0 B.c_Runs B.n_Runs_rows rfl (by decide +kernel) (pd_var 8)) (PDE.r (pd_tupOf B.b_tuple (PDE.r (pd_call c__law_form hr (by decide) rfl tk (pda_cons (pd_var 5) pda_nil))))))))))) (pds_one (pd_ret pd_bl)) pds_nil) (pds_cons (w' := (w_law_4 T XP)) (pd_set 6 sc_law.nd rfl (by first | exact .inl rfl | exact .inr rfl) (PDE.x (pd_call c_runs_of_list hr (by decide) rfl tk (pda_cons (pd_callP 1 c__law_row hr (by decide) rfl tk (pda_cons (pd_add (pd2_ee (pd_add (pd2_ee (pd_var 3) (PDE.r pd_int))) (PDE.r (pd_callP 1 c__law_draw hr (by decide) rfl tk (pda_cons pd_int pda_nil))))) pda_nil)) pda_nil)))) (pds_one (pd_for (wbd := (w_law_3 T XP)) (passes_of rfl) (pdi_list (PDX.e (pd_lstO (pda_cons (pd_tup (pda_cons (pd_var 7) (pda_cons (pd_var 6) pda_nil))) (pda_cons (pd_tup (pda_cons (pd_var 6) (pda_cons (pd_var 7) pda_nil))) pda_nil))))) (pdg_tup rfl (pdgs_cons (pdg_name 12 sc_law.nd rfl (by first | exact .inl rfl | exact .inr rfl)) (pdgs_cons (pdg_name 13 sc_law.nd rfl (by first | exact .inl rfl | exact .inr rfl)) pdgs_nil))) (pds_one (pd_tryO (op := .Mult) (i := 14) (wh := (w_law_2 T XP)) (ts := (fun a cls d => tIfS (tTest (tOp (rNeD K) (tEf T.BadSize ("size" : Str) a cls d (tVar 14)) (tFld K (tVar 13) ("size" : Str)))) (tRet (tC (.bl false))) tNext)) o_Runs_mul B.s_Runs B.r_BadSize hr (by decide) rfl rfl rfl sc_law.nd rfl rfl rfl (fun _ _ => (pd_var 12)) (fun _ _ => (pd_var 13)) (fun _ _ => (pds_one (pd_ret pd_bl))) (fun a1 oe1 cls1 d1 pn1 G1 E1 ds1 hz hf xok => by exact (pds_one (pd_ifS (pdt_neU (by have h64 := hu64 hr; exact h64) (pd2_ee (pd_ef B.r_BadSize hz hf xok (pd_var 14)) (PDE.r (pd_fld (nm := nmRuns) 1 B.c_Runs B.n_Runs_size rfl (by decide +kernel) (pd_var 13))))) (pds_one (pd_ret pd_bl)) pds_nil))))))))))))))))) (pds_one (pd_ret pd_bl)))), fun ds Pv hl h => L_law h⟩)
theorem all_mk {w : World} {K : PySem.W.Frag} {h : Heap} {mg : Str → Option Value} {fa CR CL XBadSize : Addr} {tMOST_SIZE : Tok} (X : K.In h) (G : h.Ns mainGlobals mg) (hfa : mg "law" = some (.ref fa))
    {nm_BadSize q_BadSize : Str} {N_BadSize E_BadSize f_BadSize ca_BadSize cc_BadSize : Addr} {bs_BadSize sub_BadSize : List Value} {sn_BadSize : List Str} {ab_BadSize : Bool} {col_BadSize : Option Bool} {dd_BadSize od_BadSize an_BadSize cdd_BadSize cld_BadSize : Option Addr} {m0_BadSize m1_BadSize m2_BadSize m3_BadSize m5_BadSize : Option Value} {oc_BadSize dc_BadSize pm_BadSize ct_BadSize ccl_BadSize cl_BadSize : Value} {sl_BadSize ccs_BadSize csl_BadSize : Array (Option Value)} {vs_BadSize : Array Value} {file_BadSize : Str} {tf_BadSize : Tok}
    {f_is_integer : Addr} {od_is_integer an_is_integer : Option Addr} {sl_is_integer : Array (Option Value)} {oc_is_integer kV_is_integer dc_is_integer pm_is_integer cd_is_integer ct_is_integer : Value}
    {f_parts_of : Addr} {od_parts_of an_parts_of : Option Addr} {sl_parts_of : Array (Option Value)} {oc_parts_of kV_parts_of dc_parts_of pm_parts_of cd_parts_of ct_parts_of : Value}
    {f_sign_of : Addr} {od_sign_of an_sign_of : Option Addr} {sl_sign_of : Array (Option Value)} {oc_sign_of kV_sign_of dc_sign_of pm_sign_of cd_sign_of ct_sign_of : Value}
    {f_is_less : Addr} {od_is_less an_is_less : Option Addr} {sl_is_less : Array (Option Value)} {oc_is_less kV_is_less dc_is_less pm_is_less cd_is_less ct_is_less : Value}
    {f_is_same : Addr} {od_is_same an_is_same : Option Addr} {sl_is_same : Array (Option Value)} {oc_is_same kV_is_same dc_is_same pm_is_same cd_is_same ct_is_same : Value}
    {f_greater : Addr} {od_greater an_greater : Option Addr} {sl_greater : Array (Option Value)} {oc_greater kV_greater dc_greater pm_greater cd_greater ct_greater : Value}
    {f_lesser : Addr} {od_lesser an_lesser : Option Addr} {sl_lesser : Array (Option Value)} {oc_lesser kV_lesser dc_lesser pm_lesser cd_lesser ct_lesser : Value}
    {f_joined_row : Addr} {od_joined_row an_joined_row : Option Addr} {sl_joined_row : Array (Option Value)} {oc_joined_row kV_joined_row dc_joined_row pm_joined_row cd_joined_row ct_joined_row : Value}
    {f_in_form : Addr} {od_in_form an_in_form : Option Addr} {sl_in_form : Array (Option Value)} {oc_in_form kV_in_form dc_in_form pm_in_form cd_in_form ct_in_form : Value}
    {f_pieces : Addr} {od_pieces an_pieces : Option Addr} {sl_pieces : Array (Option Value)} {oc_pieces kV_pieces dc_pieces pm_pieces cd_pieces ct_pieces : Value}
    {f_by_start : Addr} {od_by_start an_by_start : Option Addr} {sl_by_start : Array (Option Value)} {oc_by_start kV_by_start dc_by_start pm_by_start cd_by_start ct_by_start : Value}
    {f_Runs_init : Addr} {od_Runs_init an_Runs_init : Option Addr} {sl_Runs_init : Array (Option Value)} {oc_Runs_init kV_Runs_init dc_Runs_init pm_Runs_init cd_Runs_init ct_Runs_init : Value}
    {f_Runs_mul : Addr} {od_Runs_mul an_Runs_mul : Option Addr} {sl_Runs_mul : Array (Option Value)} {oc_Runs_mul kV_Runs_mul dc_Runs_mul pm_Runs_mul cd_Runs_mul ct_Runs_mul : Value}
    {f_Runs_invert : Addr} {od_Runs_invert an_Runs_invert : Option Addr} {sl_Runs_invert : Array (Option Value)} {oc_Runs_invert kV_Runs_invert dc_Runs_invert pm_Runs_invert cd_Runs_invert ct_Runs_invert : Value}
    {f_need_row : Addr} {od_need_row an_need_row : Option Addr} {sl_need_row : Array (Option Value)} {oc_need_row kV_need_row dc_need_row pm_need_row cd_need_row ct_need_row : Value}
    {f_runs_of_list : Addr} {od_runs_of_list an_runs_of_list : Option Addr} {sl_runs_of_list : Array (Option Value)} {oc_runs_of_list kV_runs_of_list dc_runs_of_list pm_runs_of_list cd_runs_of_list ct_runs_of_list : Value}
    {f__law_form : Addr} {od__law_form an__law_form : Option Addr} {sl__law_form : Array (Option Value)} {oc__law_form kV__law_form dc__law_form pm__law_form cd__law_form ct__law_form : Value}
    {f__law_after : Addr} {od__law_after an__law_after : Option Addr} {sl__law_after : Array (Option Value)} {oc__law_after kV__law_after dc__law_after pm__law_after cd__law_after ct__law_after : Value}
    {f__law_draw : Addr} {od__law_draw an__law_draw : Option Addr} {sl__law_draw : Array (Option Value)} {oc__law_draw kV__law_draw dc__law_draw pm__law_draw cd__law_draw ct__law_draw : Value}
    {f__law_shuffled : Addr} {od__law_shuffled an__law_shuffled : Option Addr} {sl__law_shuffled : Array (Option Value)} {oc__law_shuffled kV__law_shuffled dc__law_shuffled pm__law_shuffled cd__law_shuffled ct__law_shuffled : Value}
    {f__law_row : Addr} {od__law_row an__law_row : Option Addr} {sl__law_row : Array (Option Value)} {oc__law_row kV__law_row dc__law_row pm__law_row cd__law_row ct__law_row : Value}
    {f__law_blocks : Addr} {od__law_blocks an__law_blocks : Option Addr} {sl__law_blocks : Array (Option Value)} {oc__law_blocks kV__law_blocks dc__law_blocks pm__law_blocks cd__law_blocks ct__law_blocks : Value}
    {f__law_pen : Addr} {od__law_pen an__law_pen : Option Addr} {sl__law_pen : Array (Option Value)} {oc__law_pen kV__law_pen dc__law_pen pm__law_pen cd__law_pen ct__law_pen : Value}
    {f_law : Addr} {od_law an_law : Option Addr} {sl_law : Array (Option Value)} {oc_law kV_law dc_law pm_law cd_law ct_law : Value}
    (aR : PySem.W.nsIn K mainGlobals "Runs" = some (some (.ref CR)))
    (aL : PySem.W.nsIn K mainGlobals "Line" = some (some (.ref CL)))
    (pg : PySem.W.plainGet K CR Str.empty = true)
    (hd : PySem.W.hasDictIn K CR = true)
    (po : PySem.W.plainOver K CR = true)
    (sa : PySem.W.findIn K (.ref CR) "__setattr__" = some (some (.builtin "object.__setattr__")))
    (mk : PySem.W.makesIn K CR = true)
    (kc : PySem.W.keepIn K (.ref CR) = true)
    (sf : PySem.W.selfFirst K CR = true)
    (n1 : PySem.W.findIn K (.ref CR) "rows" = some none)
    (n2 : PySem.W.findIn K (.ref CR) "size" = some none)
    (z0 : PySem.W.kitOne K (.type "NoneType") (.ref CL) = some false)
    (z1 : PySem.W.kitOne K (.type "bool") (.ref CL) = some false)
    (z2 : PySem.W.kitOne K (.type "int") (.ref CL) = some false)
    (z3 : PySem.W.kitOne K (.type "str") (.ref CL) = some false)
    (z4 : PySem.W.kitOne K (.type "tuple") (.ref CL) = some false)
    (z5 : PySem.W.kitOne K (.type "list") (.ref CL) = some false)
    (b_len : PySem.W.nsIn K mainGlobals "len" = some none)
    (b_isinstance : PySem.W.nsIn K mainGlobals "isinstance" = some none)
    (b_int : PySem.W.nsIn K mainGlobals "int" = some none)
    (b_bool : PySem.W.nsIn K mainGlobals "bool" = some none)
    (b_tuple : PySem.W.nsIn K mainGlobals "tuple" = some none)
    (b_list : PySem.W.nsIn K mainGlobals "list" = some none)
    (b_range : PySem.W.nsIn K mainGlobals "range" = some none)
    (b_enumerate : PySem.W.nsIn K mainGlobals "enumerate" = some none)
    (b_min : PySem.W.nsIn K mainGlobals "min" = some none)
    (g_MOST_SIZE : PySem.W.nsIn K mainGlobals "MOST_SIZE" = some (some (.int 1000 tMOST_SIZE)))
    (xst : PySem.W.nsIn K PySem.cStatics "thirdparty.any" = some none)
    (xsu : PySem.W.nsIn K mainGlobals "super" = some none)
    (xBadSize_aC : PySem.W.nsIn K mainGlobals "BadSize" = some (some (.ref XBadSize)))
    (xBadSize_L : K.lookup XBadSize = some (excClassObj nm_BadSize q_BadSize XBadSize N_BadSize bs_BadSize [.ref E_BadSize, .type "ValueError", .type "Exception", .type "BaseException", .type "object"] true sn_BadSize sub_BadSize ab_BadSize col_BadSize dd_BadSize m0_BadSize m1_BadSize m2_BadSize m3_BadSize m5_BadSize "ValueError.__new__"))
    (xBadSize_al : PySem.W.alongIn K "__init__" [.ref E_BadSize, .type "ValueError", .type "Exception", .type "BaseException", .type "object"] = some (some (.builtin "ValueError.__init__")))
    (xBadSize_sa : PySem.W.findIn K (.ref XBadSize) "__setattr__" = some (some (.builtin "object.__setattr__")))
    (xBadSize_ga : PySem.W.findIn K (.ref XBadSize) "__getattribute__" = some (some (.builtin "BaseException.__getattribute__")))
    (xBadSize_gg : PySem.W.findIn K (.ref XBadSize) "__getattr__" = some none)
    (xBadSize_no : PySem.W.findIn K (.ref XBadSize) "size" = some none)
    (xBadSize_iC : PySem.W.findIn K (.ref XBadSize) "__init__" = some (some (.ref f_BadSize)))
    (xBadSize_tC : PySem.W.typeIn K (.ref f_BadSize) = some (.type "function"))
    (xBadSize_kC : PySem.W.keepIn K (.ref XBadSize) = true)
    (xBadSize_eC : PySem.W.subIn K (.ref XBadSize) (.type "BaseException") = some true)
    (xBadSize_vC : PySem.W.subIn K (.ref XBadSize) (.type "ValueError") = some true)
    (xBadSize_sl : PySem.W.mroIn K XBadSize (.ref XBadSize) = some true)
    (xBadSize_ty : PySem.W.typeIn K (.ref XBadSize) = some (.type "type"))
    (xBadSize_hd : PySem.W.hasDictIn K XBadSize = true)
    (xBadSize_is : PySem.W.isClsIn K XBadSize = true)
    (xBadSize_fn : K.lookup f_BadSize = some ⟨oc_BadSize, od_BadSize, .func (PySem.W.ksFn "__init__" "BadSize.__init__" (DLX.iA "size" ⟨9, 17, 9, 21⟩ ⟨9, 23, 9, 27⟩) (DLX.iB "size" "the size is wrong" ⟨10, 8, 10, 13⟩ ⟨10, 8, 10, 15⟩ ⟨10, 8, 10, 24⟩ ⟨10, 25, 10, 44⟩ ⟨10, 8, 10, 45⟩ ⟨10, 8, 10, 45⟩ ⟨11, 8, 11, 12⟩ ⟨11, 8, 11, 17⟩ ⟨11, 20, 11, 24⟩ ⟨11, 8, 11, 24⟩) (DLX.iS "size") .none .none dc_BadSize pm_BadSize an_BadSize (.ref ca_BadSize) ct_BadSize cc_BadSize), sl_BadSize⟩)
    (xBadSize_cd : PySem.W.codeIn K (.ref ca_BadSize) "BadSize.__init__" = true)
    (xBadSize_ca : K.lookup ca_BadSize = some ⟨ccl_BadSize, cdd_BadSize, .fields vs_BadSize, ccs_BadSize⟩)
    (xBadSize_v2 : vs_BadSize[2]? = some (.str file_BadSize tf_BadSize))
    (xBadSize_fi : ((PySem.Challenge.pw_everyorder_k29_products_of_runs.main.file : Str) == file_BadSize) = true)
    (xBadSize_ce : K.lookup cc_BadSize = some ⟨cl_BadSize, cld_BadSize, .cell (some (.ref XBadSize)), csl_BadSize⟩)
    (a_is_integer : PySem.W.nsIn K mainGlobals "is_integer" = some (some (.ref f_is_integer)))
    (l_is_integer : K.lookup f_is_integer = some ⟨oc_is_integer, od_is_integer, .func (PySem.W.fnOf "is_integer" "is_integer" (defArgs s_is_integer) (defBody s_is_integer) (defScope s_is_integer) .none kV_is_integer dc_is_integer pm_is_integer an_is_integer cd_is_integer ct_is_integer), sl_is_integer⟩)
    (c_is_integer : PySem.W.codeIn K cd_is_integer "is_integer" = true)
    (k_is_integer : PySem.W.keepIn K (.ref f_is_integer) = true)
    (a_parts_of : PySem.W.nsIn K mainGlobals "parts_of" = some (some (.ref f_parts_of)))
    (l_parts_of : K.lookup f_parts_of = some ⟨oc_parts_of, od_parts_of, .func (PySem.W.fnOf "parts_of" "parts_of" (defArgs s_parts_of) (defBody s_parts_of) (defScope s_parts_of) .none kV_parts_of dc_parts_of pm_parts_of an_parts_of cd_parts_of ct_parts_of), sl_parts_of⟩)
    (c_parts_of : PySem.W.codeIn K cd_parts_of "parts_of" = true)
    (k_parts_of : PySem.W.keepIn K (.ref f_parts_of) = true)
    (a_sign_of : PySem.W.nsIn K mainGlobals "sign_of" = some (some (.ref f_sign_of)))
    (l_sign_of : K.lookup f_sign_of = some ⟨oc_sign_of, od_sign_of, .func (PySem.W.fnOf "sign_of" "sign_of" (defArgs s_sign_of) (defBody s_sign_of) (defScope s_sign_of) .none kV_sign_of dc_sign_of pm_sign_of an_sign_of cd_sign_of ct_sign_of), sl_sign_of⟩)
    (c_sign_of : PySem.W.codeIn K cd_sign_of "sign_of" = true)
    (k_sign_of : PySem.W.keepIn K (.ref f_sign_of) = true)
    (a_is_less : PySem.W.nsIn K mainGlobals "is_less" = some (some (.ref f_is_less)))
    (l_is_less : K.lookup f_is_less = some ⟨oc_is_less, od_is_less, .func (PySem.W.fnOf "is_less" "is_less" (defArgs s_is_less) (defBody s_is_less) (defScope s_is_less) .none kV_is_less dc_is_less pm_is_less an_is_less cd_is_less ct_is_less), sl_is_less⟩)
    (c_is_less : PySem.W.codeIn K cd_is_less "is_less" = true)
    (k_is_less : PySem.W.keepIn K (.ref f_is_less) = true)
    (a_is_same : PySem.W.nsIn K mainGlobals "is_same" = some (some (.ref f_is_same)))
    (l_is_same : K.lookup f_is_same = some ⟨oc_is_same, od_is_same, .func (PySem.W.fnOf "is_same" "is_same" (defArgs s_is_same) (defBody s_is_same) (defScope s_is_same) .none kV_is_same dc_is_same pm_is_same an_is_same cd_is_same ct_is_same), sl_is_same⟩)
    (c_is_same : PySem.W.codeIn K cd_is_same "is_same" = true)
    (k_is_same : PySem.W.keepIn K (.ref f_is_same) = true)
    (a_greater : PySem.W.nsIn K mainGlobals "greater" = some (some (.ref f_greater)))
    (l_greater : K.lookup f_greater = some ⟨oc_greater, od_greater, .func (PySem.W.fnOf "greater" "greater" (defArgs s_greater) (defBody s_greater) (defScope s_greater) .none kV_greater dc_greater pm_greater an_greater cd_greater ct_greater), sl_greater⟩)
    (c_greater : PySem.W.codeIn K cd_greater "greater" = true)
    (k_greater : PySem.W.keepIn K (.ref f_greater) = true)
    (a_lesser : PySem.W.nsIn K mainGlobals "lesser" = some (some (.ref f_lesser)))
    (l_lesser : K.lookup f_lesser = some ⟨oc_lesser, od_lesser, .func (PySem.W.fnOf "lesser" "lesser" (defArgs s_lesser) (defBody s_lesser) (defScope s_lesser) .none kV_lesser dc_lesser pm_lesser an_lesser cd_lesser ct_lesser), sl_lesser⟩)
    (c_lesser : PySem.W.codeIn K cd_lesser "lesser" = true)
    (k_lesser : PySem.W.keepIn K (.ref f_lesser) = true)
    (a_joined_row : PySem.W.nsIn K mainGlobals "joined_row" = some (some (.ref f_joined_row)))
    (l_joined_row : K.lookup f_joined_row = some ⟨oc_joined_row, od_joined_row, .func (PySem.W.fnOf "joined_row" "joined_row" (defArgs s_joined_row) (defBody s_joined_row) (defScope s_joined_row) .none kV_joined_row dc_joined_row pm_joined_row an_joined_row cd_joined_row ct_joined_row), sl_joined_row⟩)
    (c_joined_row : PySem.W.codeIn K cd_joined_row "joined_row" = true)
    (k_joined_row : PySem.W.keepIn K (.ref f_joined_row) = true)
    (a_in_form : PySem.W.nsIn K mainGlobals "in_form" = some (some (.ref f_in_form)))
    (l_in_form : K.lookup f_in_form = some ⟨oc_in_form, od_in_form, .func (PySem.W.fnOf "in_form" "in_form" (defArgs s_in_form) (defBody s_in_form) (defScope s_in_form) .none kV_in_form dc_in_form pm_in_form an_in_form cd_in_form ct_in_form), sl_in_form⟩)
    (c_in_form : PySem.W.codeIn K cd_in_form "in_form" = true)
    (k_in_form : PySem.W.keepIn K (.ref f_in_form) = true)
    (a_pieces : PySem.W.nsIn K mainGlobals "pieces" = some (some (.ref f_pieces)))
    (l_pieces : K.lookup f_pieces = some ⟨oc_pieces, od_pieces, .func (PySem.W.fnOf "pieces" "pieces" (defArgs s_pieces) (defBody s_pieces) (defScope s_pieces) .none kV_pieces dc_pieces pm_pieces an_pieces cd_pieces ct_pieces), sl_pieces⟩)
    (c_pieces : PySem.W.codeIn K cd_pieces "pieces" = true)
    (k_pieces : PySem.W.keepIn K (.ref f_pieces) = true)
    (a_by_start : PySem.W.nsIn K mainGlobals "by_start" = some (some (.ref f_by_start)))
    (l_by_start : K.lookup f_by_start = some ⟨oc_by_start, od_by_start, .func (PySem.W.fnOf "by_start" "by_start" (defArgs s_by_start) (defBody s_by_start) (defScope s_by_start) .none kV_by_start dc_by_start pm_by_start an_by_start cd_by_start ct_by_start), sl_by_start⟩)
    (c_by_start : PySem.W.codeIn K cd_by_start "by_start" = true)
    (k_by_start : PySem.W.keepIn K (.ref f_by_start) = true)
    (a_Runs_init : PySem.W.findIn K (.ref CR) "__init__" = some (some (.ref f_Runs_init)))
    (i_Runs_init : PySem.W.isFn K (.ref f_Runs_init) = true)
    (l_Runs_init : K.lookup f_Runs_init = some ⟨oc_Runs_init, od_Runs_init, .func (PySem.W.fnOf "__init__" "Runs.__init__" (defArgs s_Runs_init) (defBody s_Runs_init) (defScope s_Runs_init) .none kV_Runs_init dc_Runs_init pm_Runs_init an_Runs_init cd_Runs_init ct_Runs_init), sl_Runs_init⟩)
    (c_Runs_init : PySem.W.codeIn K cd_Runs_init "Runs.__init__" = true)
    (k_Runs_init : PySem.W.keepIn K (.ref f_Runs_init) = true)
    (a_Runs_mul : PySem.W.findIn K (.ref CR) "__mul__" = some (some (.ref f_Runs_mul)))
    (i_Runs_mul : PySem.W.isFn K (.ref f_Runs_mul) = true)
    (l_Runs_mul : K.lookup f_Runs_mul = some ⟨oc_Runs_mul, od_Runs_mul, .func (PySem.W.fnOf "__mul__" "Runs.__mul__" (defArgs s_Runs_mul) (defBody s_Runs_mul) (defScope s_Runs_mul) .none kV_Runs_mul dc_Runs_mul pm_Runs_mul an_Runs_mul cd_Runs_mul ct_Runs_mul), sl_Runs_mul⟩)
    (c_Runs_mul : PySem.W.codeIn K cd_Runs_mul "Runs.__mul__" = true)
    (k_Runs_mul : PySem.W.keepIn K (.ref f_Runs_mul) = true)
    (a_Runs_invert : PySem.W.findIn K (.ref CR) "__invert__" = some (some (.ref f_Runs_invert)))
    (i_Runs_invert : PySem.W.isFn K (.ref f_Runs_invert) = true)
    (l_Runs_invert : K.lookup f_Runs_invert = some ⟨oc_Runs_invert, od_Runs_invert, .func (PySem.W.fnOf "__invert__" "Runs.__invert__" (defArgs s_Runs_invert) (defBody s_Runs_invert) (defScope s_Runs_invert) .none kV_Runs_invert dc_Runs_invert pm_Runs_invert an_Runs_invert cd_Runs_invert ct_Runs_invert), sl_Runs_invert⟩)
    (c_Runs_invert : PySem.W.codeIn K cd_Runs_invert "Runs.__invert__" = true)
    (k_Runs_invert : PySem.W.keepIn K (.ref f_Runs_invert) = true)
    (a_need_row : PySem.W.nsIn K mainGlobals "need_row" = some (some (.ref f_need_row)))
    (l_need_row : K.lookup f_need_row = some ⟨oc_need_row, od_need_row, .func (PySem.W.fnOf "need_row" "need_row" (defArgs s_need_row) (defBody s_need_row) (defScope s_need_row) .none kV_need_row dc_need_row pm_need_row an_need_row cd_need_row ct_need_row), sl_need_row⟩)
    (c_need_row : PySem.W.codeIn K cd_need_row "need_row" = true)
    (k_need_row : PySem.W.keepIn K (.ref f_need_row) = true)
    (a_runs_of_list : PySem.W.nsIn K mainGlobals "runs_of_list" = some (some (.ref f_runs_of_list)))
    (l_runs_of_list : K.lookup f_runs_of_list = some ⟨oc_runs_of_list, od_runs_of_list, .func (PySem.W.fnOf "runs_of_list" "runs_of_list" (defArgs s_runs_of_list) (defBody s_runs_of_list) (defScope s_runs_of_list) .none kV_runs_of_list dc_runs_of_list pm_runs_of_list an_runs_of_list cd_runs_of_list ct_runs_of_list), sl_runs_of_list⟩)
    (c_runs_of_list : PySem.W.codeIn K cd_runs_of_list "runs_of_list" = true)
    (k_runs_of_list : PySem.W.keepIn K (.ref f_runs_of_list) = true)
    (a__law_form : PySem.W.nsIn K mainGlobals "_law_form" = some (some (.ref f__law_form)))
    (l__law_form : K.lookup f__law_form = some ⟨oc__law_form, od__law_form, .func (PySem.W.fnOf "_law_form" "_law_form" (defArgs s__law_form) (defBody s__law_form) (defScope s__law_form) .none kV__law_form dc__law_form pm__law_form an__law_form cd__law_form ct__law_form), sl__law_form⟩)
    (c__law_form : PySem.W.codeIn K cd__law_form "_law_form" = true)
    (k__law_form : PySem.W.keepIn K (.ref f__law_form) = true)
    (a__law_after : PySem.W.nsIn K mainGlobals "_law_after" = some (some (.ref f__law_after)))
    (l__law_after : K.lookup f__law_after = some ⟨oc__law_after, od__law_after, .func (PySem.W.fnOf "_law_after" "_law_after" (defArgs s__law_after) (defBody s__law_after) (defScope s__law_after) .none kV__law_after dc__law_after pm__law_after an__law_after cd__law_after ct__law_after), sl__law_after⟩)
    (c__law_after : PySem.W.codeIn K cd__law_after "_law_after" = true)
    (k__law_after : PySem.W.keepIn K (.ref f__law_after) = true)
    (a__law_draw : PySem.W.nsIn K mainGlobals "_law_draw" = some (some (.ref f__law_draw)))
    (l__law_draw : K.lookup f__law_draw = some ⟨oc__law_draw, od__law_draw, .func (PySem.W.fnOf "_law_draw" "_law_draw" (defArgs s__law_draw) (defBody s__law_draw) (defScope s__law_draw) .none kV__law_draw dc__law_draw pm__law_draw an__law_draw cd__law_draw ct__law_draw), sl__law_draw⟩)
    (c__law_draw : PySem.W.codeIn K cd__law_draw "_law_draw" = true)
    (k__law_draw : PySem.W.keepIn K (.ref f__law_draw) = true)
    (a__law_shuffled : PySem.W.nsIn K mainGlobals "_law_shuffled" = some (some (.ref f__law_shuffled)))
    (l__law_shuffled : K.lookup f__law_shuffled = some ⟨oc__law_shuffled, od__law_shuffled, .func (PySem.W.fnOf "_law_shuffled" "_law_shuffled" (defArgs s__law_shuffled) (defBody s__law_shuffled) (defScope s__law_shuffled) .none kV__law_shuffled dc__law_shuffled pm__law_shuffled an__law_shuffled cd__law_shuffled ct__law_shuffled), sl__law_shuffled⟩)
    (c__law_shuffled : PySem.W.codeIn K cd__law_shuffled "_law_shuffled" = true)
    (k__law_shuffled : PySem.W.keepIn K (.ref f__law_shuffled) = true)
    (a__law_row : PySem.W.nsIn K mainGlobals "_law_row" = some (some (.ref f__law_row)))
    (l__law_row : K.lookup f__law_row = some ⟨oc__law_row, od__law_row, .func (PySem.W.fnOf "_law_row" "_law_row" (defArgs s__law_row) (defBody s__law_row) (defScope s__law_row) .none kV__law_row dc__law_row pm__law_row an__law_row cd__law_row ct__law_row), sl__law_row⟩)
    (c__law_row : PySem.W.codeIn K cd__law_row "_law_row" = true)
    (k__law_row : PySem.W.keepIn K (.ref f__law_row) = true)
    (a__law_blocks : PySem.W.nsIn K mainGlobals "_law_blocks" = some (some (.ref f__law_blocks)))
    (l__law_blocks : K.lookup f__law_blocks = some ⟨oc__law_blocks, od__law_blocks, .func (PySem.W.fnOf "_law_blocks" "_law_blocks" (defArgs s__law_blocks) (defBody s__law_blocks) (defScope s__law_blocks) .none kV__law_blocks dc__law_blocks pm__law_blocks an__law_blocks cd__law_blocks ct__law_blocks), sl__law_blocks⟩)
    (c__law_blocks : PySem.W.codeIn K cd__law_blocks "_law_blocks" = true)
    (k__law_blocks : PySem.W.keepIn K (.ref f__law_blocks) = true)
    (a__law_pen : PySem.W.nsIn K mainGlobals "_law_pen" = some (some (.ref f__law_pen)))
    (l__law_pen : K.lookup f__law_pen = some ⟨oc__law_pen, od__law_pen, .func (PySem.W.fnOf "_law_pen" "_law_pen" (defArgs s__law_pen) (defBody s__law_pen) (defScope s__law_pen) .none kV__law_pen dc__law_pen pm__law_pen an__law_pen cd__law_pen ct__law_pen), sl__law_pen⟩)
    (c__law_pen : PySem.W.codeIn K cd__law_pen "_law_pen" = true)
    (k__law_pen : PySem.W.keepIn K (.ref f__law_pen) = true)
    (a_law : PySem.W.nsIn K mainGlobals "law" = some (some (.ref f_law)))
    (l_law : K.lookup f_law = some ⟨oc_law, od_law, .func (PySem.W.fnOf "law" "law" (defArgs s_law) (defBody s_law) (defScope s_law) .none kV_law dc_law pm_law an_law cd_law ct_law), sl_law⟩)
    (c_law : PySem.W.codeIn K cd_law "law" = true)
    (k_law : PySem.W.keepIn K (.ref f_law) = true) :
    ∃ fd : FuncData, (∀ (s : Shared) (v : Value), BindsTo s fd ⟨[v], []⟩ [("script", v)]) ∧ ∀ base : Heap, K.In base → base.Ns mainGlobals mg → FnOk PySem.Challenge.pw_everyorder_k29_products_of_runs w K mg base (L2.CX PySem.Challenge.pw_everyorder_k29_products_of_runs w) 9 fa fd ["script"] (SpD K 1 (S_law ⟨0, 0, 0, 0, 0⟩)) := by
  have e := hfa.symm.trans (PySem.W.mg_of X G a_law)
  cases e
  have te_BadSize : PySem.W.exmOne K (.ref XBadSize) (.ref XBadSize) = some true := exm_self xBadSize_eC xBadSize_is xBadSize_ty xBadSize_sl
  have r_BadSize : Rai PySem.Challenge.pw_everyorder_k29_products_of_runs K mg "BadSize" "size" XBadSize := ⟨f_BadSize, { gC := PySem.W.mg_of X G xBadSize_aC, cls := ⟨nm_BadSize, q_BadSize, N_BadSize, bs_BadSize, _, sn_BadSize, sub_BadSize, ab_BadSize, col_BadSize, dd_BadSize, m0_BadSize, m1_BadSize, m2_BadSize, m3_BadSize, m5_BadSize, xBadSize_L, rfl, xBadSize_al⟩, sa := xBadSize_sa, ga := xBadSize_ga, gg := xBadSize_gg, noN := xBadSize_no, iC := xBadSize_iC, tC := xBadSize_tC, kC := xBadSize_kC, exC := xBadSize_eC, vaC := xBadSize_vC, slC := xBadSize_sl, tyC := xBadSize_ty, hdC := xBadSize_hd, te := te_BadSize, st := xst, noS := PySem.W.mg_none_of X G xsu, fn := ⟨_, _, _, _, _, _, _, _, _, _, _, _, _, _, _, _, _, _, _, _, _, _, _, xBadSize_fn, xBadSize_cd, ⟨_, _, _, _, _, _, xBadSize_ca, xBadSize_v2, xBadSize_fi⟩, ⟨_, _, _, xBadSize_ce⟩, fun _ _ _ => BindsTo.of_eq rfl, fun _ => rfl, fun _ => ⟨_, rfl⟩, fun _ => rfl⟩, top := by decide +kernel, loc := rfl, loS := rfl, loU := rfl, loC := rfl, cel := by decide +kernel, dbg := by decide +kernel, nself := by decide +kernel }⟩
  have B : Txt PySem.Challenge.pw_everyorder_k29_products_of_runs K mg ⟨CR, CL, XBadSize, 0, 0⟩ := ⟨PySem.W.mg_none_of X G b_len, PySem.W.mg_none_of X G b_isinstance, PySem.W.mg_none_of X G b_int, PySem.W.mg_none_of X G b_bool, PySem.W.mg_none_of X G b_tuple, PySem.W.mg_none_of X G b_list, PySem.W.mg_none_of X G b_range, PySem.W.mg_none_of X G b_enumerate, PySem.W.mg_none_of X G b_min, PySem.W.mg_of X G aL, ⟨nb6 z0 z1 z2 z3 z4 z5⟩, ⟨_, PySem.W.mg_of X G g_MOST_SIZE, ⟨_, rfl⟩⟩, ⟨pg, hd, po, sa⟩, n1, n2, sf, r_BadSize⟩
  have F_is_integer := fun_mk (st := s_is_integer) l_is_integer c_is_integer k_is_integer
  have b_is_integer := F_is_integer.binds (ps := ["value"]) fun _ _ _ _ _ _ us hl => match us, hl with | [_], _ => rfl
  have F_parts_of := fun_mk (st := s_parts_of) l_parts_of c_parts_of k_parts_of
  have b_parts_of := F_parts_of.binds (ps := ["number"]) fun _ _ _ _ _ _ us hl => match us, hl with | [_], _ => rfl
  have F_sign_of := fun_mk (st := s_sign_of) l_sign_of c_sign_of k_sign_of
  have b_sign_of := F_sign_of.binds (ps := ["number"]) fun _ _ _ _ _ _ us hl => match us, hl with | [_], _ => rfl
  have F_is_less := fun_mk (st := s_is_less) l_is_less c_is_less k_is_less
  have b_is_less := F_is_less.binds (ps := ["one", "other"]) fun _ _ _ _ _ _ us hl => match us, hl with | [_, _], _ => rfl
  have F_is_same := fun_mk (st := s_is_same) l_is_same c_is_same k_is_same
  have b_is_same := F_is_same.binds (ps := ["one", "other"]) fun _ _ _ _ _ _ us hl => match us, hl with | [_, _], _ => rfl
  have F_greater := fun_mk (st := s_greater) l_greater c_greater k_greater
  have b_greater := F_greater.binds (ps := ["one", "other"]) fun _ _ _ _ _ _ us hl => match us, hl with | [_, _], _ => rfl
  have F_lesser := fun_mk (st := s_lesser) l_lesser c_lesser k_lesser
  have b_lesser := F_lesser.binds (ps := ["one", "other"]) fun _ _ _ _ _ _ us hl => match us, hl with | [_, _], _ => rfl
  have F_joined_row := fun_mk (st := s_joined_row) l_joined_row c_joined_row k_joined_row
  have b_joined_row := F_joined_row.binds (ps := ["row", "more"]) fun _ _ _ _ _ _ us hl => match us, hl with | [_, _], _ => rfl
  have F_in_form := fun_mk (st := s_in_form) l_in_form c_in_form k_in_form
  have b_in_form := F_in_form.binds (ps := ["rows"]) fun _ _ _ _ _ _ us hl => match us, hl with | [_], _ => rfl
  have F_pieces := fun_mk (st := s_pieces) l_pieces c_pieces k_pieces
  have b_pieces := F_pieces.binds (ps := ["row", "others"]) fun _ _ _ _ _ _ us hl => match us, hl with | [_, _], _ => rfl
  have F_by_start := fun_mk (st := s_by_start) l_by_start c_by_start k_by_start
  have b_by_start := F_by_start.binds (ps := ["rows"]) fun _ _ _ _ _ _ us hl => match us, hl with | [_], _ => rfl
  have F_Runs_init := fun_mk (st := s_Runs_init) l_Runs_init c_Runs_init k_Runs_init
  have b_Runs_init := F_Runs_init.binds (ps := ["self", "rows"]) fun _ _ _ _ _ _ us hl => match us, hl with | [_, _], _ => rfl
  have F_Runs_mul := fun_mk (st := s_Runs_mul) l_Runs_mul c_Runs_mul k_Runs_mul
  have b_Runs_mul := F_Runs_mul.binds (ps := ["self", "other"]) fun _ _ _ _ _ _ us hl => match us, hl with | [_, _], _ => rfl
  have F_Runs_invert := fun_mk (st := s_Runs_invert) l_Runs_invert c_Runs_invert k_Runs_invert
  have b_Runs_invert := F_Runs_invert.binds (ps := ["self"]) fun _ _ _ _ _ _ us hl => match us, hl with | [_], _ => rfl
  have F_need_row := fun_mk (st := s_need_row) l_need_row c_need_row k_need_row
  have b_need_row := F_need_row.binds (ps := ["row"]) fun _ _ _ _ _ _ us hl => match us, hl with | [_], _ => rfl
  have F_runs_of_list := fun_mk (st := s_runs_of_list) l_runs_of_list c_runs_of_list k_runs_of_list
  have b_runs_of_list := F_runs_of_list.binds (ps := ["places"]) fun _ _ _ _ _ _ us hl => match us, hl with | [_], _ => rfl
  have F__law_form := fun_mk (st := s__law_form) l__law_form c__law_form k__law_form
  have b__law_form := F__law_form.binds (ps := ["row"]) fun _ _ _ _ _ _ us hl => match us, hl with | [_], _ => rfl
  have F__law_after := fun_mk (st := s__law_after) l__law_after c__law_after k__law_after
  have b__law_after := F__law_after.binds (ps := ["row", "things"]) fun _ _ _ _ _ _ us hl => match us, hl with | [_, _], _ => rfl
  have F__law_draw := fun_mk (st := s__law_draw) l__law_draw c__law_draw k__law_draw
  have b__law_draw := F__law_draw.binds (ps := ["pen", "many"]) fun _ _ _ _ _ _ us hl => match us, hl with | [_, _], _ => rfl
  have F__law_shuffled := fun_mk (st := s__law_shuffled) l__law_shuffled c__law_shuffled k__law_shuffled
  have b__law_shuffled := F__law_shuffled.binds (ps := ["pen", "some"]) fun _ _ _ _ _ _ us hl => match us, hl with | [_, _], _ => rfl
  have F__law_row := fun_mk (st := s__law_row) l__law_row c__law_row k__law_row
  have b__law_row := F__law_row.binds (ps := ["pen", "size"]) fun _ _ _ _ _ _ us hl => match us, hl with | [_, _], _ => rfl
  have F__law_blocks := fun_mk (st := s__law_blocks) l__law_blocks c__law_blocks k__law_blocks
  have b__law_blocks := F__law_blocks.binds (ps := ["pen", "size"]) fun _ _ _ _ _ _ us hl => match us, hl with | [_, _], _ => rfl
  have F__law_pen := fun_mk (st := s__law_pen) l__law_pen c__law_pen k__law_pen
  have b__law_pen := F__law_pen.binds (ps := ["script"]) fun _ _ _ _ _ _ us hl => match us, hl with | [_], _ => rfl
  have F_law := fun_mk (st := s_law) l_law c_law k_law
  refine ⟨PySem.W.fnOf "law" "law" (defArgs s_law) (defBody s_law) (defScope s_law) .none kV_law dc_law pm_law an_law cd_law ct_law, fun s v => .of_eq rfl, fun base _ _ => ?_⟩
  have hc_is_integer : Cal PySem.Challenge.pw_everyorder_k29_products_of_runs w K mg base 1 "is_integer" _ := ⟨_, _, _, (ok_is_integer (w := w) (base := base) B F_is_integer), PySem.W.mg_of X G a_is_integer, k_is_integer, b_is_integer⟩
  have hc_parts_of : Cal PySem.Challenge.pw_everyorder_k29_products_of_runs w K mg base 1 "parts_of" _ := ⟨_, _, _, (ok_parts_of (w := w) (base := base) B F_parts_of), PySem.W.mg_of X G a_parts_of, k_parts_of, b_parts_of⟩
  have hc_sign_of : Cal PySem.Challenge.pw_everyorder_k29_products_of_runs w K mg base 2 "sign_of" _ := ⟨_, _, _, (ok_sign_of (w := w) (base := base) B F_sign_of hc_parts_of), PySem.W.mg_of X G a_sign_of, k_sign_of, b_sign_of⟩
  have hc_is_less : Cal PySem.Challenge.pw_everyorder_k29_products_of_runs w K mg base 3 "is_less" _ := ⟨_, _, _, (ok_is_less (w := w) (base := base) B F_is_less hc_sign_of), PySem.W.mg_of X G a_is_less, k_is_less, b_is_less⟩
  have hc_is_same : Cal PySem.Challenge.pw_everyorder_k29_products_of_runs w K mg base 3 "is_same" _ := ⟨_, _, _, (ok_is_same (w := w) (base := base) B F_is_same hc_sign_of), PySem.W.mg_of X G a_is_same, k_is_same, b_is_same⟩
  have hc_greater : Cal PySem.Challenge.pw_everyorder_k29_products_of_runs w K mg base 4 "greater" _ := ⟨_, _, _, (ok_greater (w := w) (base := base) B F_greater hc_is_less), PySem.W.mg_of X G a_greater, k_greater, b_greater⟩
  have hc_lesser : Cal PySem.Challenge.pw_everyorder_k29_products_of_runs w K mg base 4 "lesser" _ := ⟨_, _, _, (ok_lesser (w := w) (base := base) B F_lesser hc_is_less), PySem.W.mg_of X G a_lesser, k_lesser, b_lesser⟩
  have hc_joined_row : Cal PySem.Challenge.pw_everyorder_k29_products_of_runs w K mg base 4 "joined_row" _ := ⟨_, _, _, (ok_joined_row (w := w) (base := base) B F_joined_row hc_is_same), PySem.W.mg_of X G a_joined_row, k_joined_row, b_joined_row⟩
  have hc_in_form : Cal PySem.Challenge.pw_everyorder_k29_products_of_runs w K mg base 5 "in_form" _ := ⟨_, _, _, (ok_in_form (w := w) (base := base) B F_in_form hc_is_same hc_joined_row), PySem.W.mg_of X G a_in_form, k_in_form, b_in_form⟩
  have hc_pieces : Cal PySem.Challenge.pw_everyorder_k29_products_of_runs w K mg base 5 "pieces" _ := ⟨_, _, _, (ok_pieces (w := w) (base := base) B F_pieces hc_is_less hc_greater hc_lesser), PySem.W.mg_of X G a_pieces, k_pieces, b_pieces⟩
  have hc_by_start : Cal PySem.Challenge.pw_everyorder_k29_products_of_runs w K mg base 4 "by_start" _ := ⟨_, _, _, (ok_by_start (w := w) (base := base) B F_by_start hc_is_less), PySem.W.mg_of X G a_by_start, k_by_start, b_by_start⟩
  have hm_Runs : Mak PySem.Challenge.pw_everyorder_k29_products_of_runs w K mg base 6 "Runs" CR 1 _ := ⟨_, _, _, ⟨mk, a_Runs_init, i_Runs_init, kc⟩, (ok_Runs_init (w := w) (base := base) B F_Runs_init hc_in_form), PySem.W.mg_of X G aR, b_Runs_init⟩
  have ho_Runs_mul : Opr PySem.Challenge.pw_everyorder_k29_products_of_runs w K mg base 8 CR (PySem.dunder (Operator.info .Mult).2) 2 _ := ⟨_, _, _, a_Runs_mul, i_Runs_mul, (ok_Runs_mul (w := w) (base := base) B F_Runs_mul hc_is_same hc_pieces hm_Runs), b_Runs_mul⟩
  have ho_Runs_invert : Opr PySem.Challenge.pw_everyorder_k29_products_of_runs w K mg base 8 CR "__invert__" 1 _ := ⟨_, _, _, a_Runs_invert, i_Runs_invert, (ok_Runs_invert (w := w) (base := base) B F_Runs_invert hc_by_start hm_Runs), b_Runs_invert⟩
  have hc_need_row : Cal PySem.Challenge.pw_everyorder_k29_products_of_runs w K mg base 2 "need_row" _ := ⟨_, _, _, (ok_need_row (w := w) (base := base) B F_need_row hc_is_integer), PySem.W.mg_of X G a_need_row, k_need_row, b_need_row⟩
  have hc_runs_of_list : Cal PySem.Challenge.pw_everyorder_k29_products_of_runs w K mg base 8 "runs_of_list" _ := ⟨_, _, _, (ok_runs_of_list (w := w) (base := base) B F_runs_of_list hm_Runs hc_need_row), PySem.W.mg_of X G a_runs_of_list, k_runs_of_list, b_runs_of_list⟩
  have hc__law_form : Cal PySem.Challenge.pw_everyorder_k29_products_of_runs w K mg base 1 "_law_form" _ := ⟨_, _, _, (ok__law_form (w := w) (base := base) B F__law_form), PySem.W.mg_of X G a__law_form, k__law_form, b__law_form⟩
  have hc__law_after : Cal PySem.Challenge.pw_everyorder_k29_products_of_runs w K mg base 1 "_law_after" _ := ⟨_, _, _, (ok__law_after (w := w) (base := base) B F__law_after), PySem.W.mg_of X G a__law_after, k__law_after, b__law_after⟩
  have hc__law_draw : Cal PySem.Challenge.pw_everyorder_k29_products_of_runs w K mg base 1 "_law_draw" _ := ⟨_, _, _, (ok__law_draw (w := w) (base := base) B F__law_draw), PySem.W.mg_of X G a__law_draw, k__law_draw, b__law_draw⟩
  have hc__law_shuffled : Cal PySem.Challenge.pw_everyorder_k29_products_of_runs w K mg base 2 "_law_shuffled" _ := ⟨_, _, _, (ok__law_shuffled (w := w) (base := base) B F__law_shuffled hc__law_draw), PySem.W.mg_of X G a__law_shuffled, k__law_shuffled, b__law_shuffled⟩
  have hc__law_row : Cal PySem.Challenge.pw_everyorder_k29_products_of_runs w K mg base 3 "_law_row" _ := ⟨_, _, _, (ok__law_row (w := w) (base := base) B F__law_row hc__law_shuffled), PySem.W.mg_of X G a__law_row, k__law_row, b__law_row⟩
  have hc__law_blocks : Cal PySem.Challenge.pw_everyorder_k29_products_of_runs w K mg base 3 "_law_blocks" _ := ⟨_, _, _, (ok__law_blocks (w := w) (base := base) B F__law_blocks hc__law_draw hc__law_shuffled), PySem.W.mg_of X G a__law_blocks, k__law_blocks, b__law_blocks⟩
  have hc__law_pen : Cal PySem.Challenge.pw_everyorder_k29_products_of_runs w K mg base 1 "_law_pen" _ := ⟨_, _, _, (ok__law_pen (w := w) (base := base) B F__law_pen), PySem.W.mg_of X G a__law_pen, k__law_pen, b__law_pen⟩
  exact ok_law (w := w) (base := base) B F_law ho_Runs_mul ho_Runs_invert hc_runs_of_list hc__law_form hc__law_after hc__law_draw hc__law_row hc__law_blocks hc__law_pen
theorem walk {q : Program} {loose : List Str} {XP : (Str → Option Value) → Heap → Prop} {YP : World → Heap → Prop} {d : DefRec} {K : Params → PySem.W.Frag} (hdf : d.params.defaults = []) (hY : ∀ (w : World) (h : Heap), YP w h → (K w.params).In h)
    (F : ∀ (w : World) (mg : Str → Option Value) (fa : Addr) (h : Heap), (K w.params).In h → h.Ns mainGlobals mg → mg d.name = some (.ref fa) → ∃ fd : FuncData, (∀ (s : Shared) (u : Value), BindsTo s fd ⟨[u], []⟩ [("script", u)]) ∧ ∀ base : Heap, (K w.params).In base → base.Ns mainGlobals mg → FnOk PySem.Challenge.rw_everyorder_k29_products_of_runs.prog w (K w.params) mg base (L2.CX PySem.Challenge.rw_everyorder_k29_products_of_runs.prog w) 9 fa fd ["script"] (SpD (K w.params) 1 (S_law ⟨0, 0, 0, 0, 0⟩))) :
    PySem.W.WalkO q loose XP YP PySem.Challenge.rw_everyorder_k29_products_of_runs.row.toRowW d [] (fun f vs => PySem.call f vs) :=
  L2.walk_of (n := 63) (k := 9) (x := "script") (CX := fun w => L2.CX PySem.Challenge.rw_everyorder_k29_products_of_runs.prog w) (sp := fun w => SpD (K w.params) 1 (S_law ⟨0, 0, 0, 0, 0⟩)) rfl (by decide) hdf ⟨rfl, by decide, by decide⟩ hY F (fun _ _ a ns _ _ hS => law_sp hS) fun _ _ _ _ _ z => cx_no z
end DL
open PySem PySem.W PyProof.Rows in
set_option maxRecDepth 100000 in
set_option maxHeartbeats 0 in
theorem PySem.Challenge.cw_everyorder_k29_products_of_runs_holds : PySem.Challenge.rw_everyorder_k29_products_of_runs.Holds := by
  w_on; o_law; k_head; (case hw => w_witness2)
  k_fill
  refine DL.walk rfl (fun w h Y => PySem.W.kIn_of Y) ?F
  case F =>
    intro w mg fa h KX G hmg
    refine' DL.all_mk KX G hmg ?aR ?aL ?pg ?hd ?po ?sa ?mk ?kc ?sf ?n1 ?n2 ?z0 ?z1 ?z2 ?z3 ?z4 ?z5 ?b_len ?b_isinstance ?b_int ?b_bool ?b_tuple ?b_list ?b_range ?b_enumerate ?b_min ?g_MOST_SIZE ?xst ?xsu ?xBadSize_aC ?xBadSize_L ?xBadSize_al ?xBadSize_sa ?xBadSize_ga ?xBadSize_gg ?xBadSize_no ?xBadSize_iC ?xBadSize_tC ?xBadSize_kC ?xBadSize_eC ?xBadSize_vC ?xBadSize_sl ?xBadSize_ty ?xBadSize_hd ?xBadSize_is ?xBadSize_fn ?xBadSize_cd ?xBadSize_ca ?xBadSize_v2 ?xBadSize_fi ?xBadSize_ce ?a_is_integer ?l_is_integer ?c_is_integer ?k_is_integer ?a_parts_of ?l_parts_of ?c_parts_of ?k_parts_of ?a_sign_of ?l_sign_of ?c_sign_of ?k_sign_of ?a_is_less ?l_is_less ?c_is_less ?k_is_less ?a_is_same ?l_is_same ?c_is_same ?k_is_same ?a_greater ?l_greater ?c_greater ?k_greater ?a_lesser ?l_lesser ?c_lesser ?k_lesser ?a_joined_row ?l_joined_row ?c_joined_row ?k_joined_row ?a_in_form ?l_in_form ?c_in_form ?k_in_form ?a_pieces ?l_pieces ?c_pieces ?k_pieces ?a_by_start ?l_by_start ?c_by_start ?k_by_start ?a_Runs_init ?i_Runs_init ?l_Runs_init ?c_Runs_init ?k_Runs_init ?a_Runs_mul ?i_Runs_mul ?l_Runs_mul ?c_Runs_mul ?k_Runs_mul ?a_Runs_invert ?i_Runs_invert ?l_Runs_invert ?c_Runs_invert ?k_Runs_invert ?a_need_row ?l_need_row ?c_need_row ?k_need_row ?a_runs_of_list ?l_runs_of_list ?c_runs_of_list ?k_runs_of_list ?a__law_form ?l__law_form ?c__law_form ?k__law_form ?a__law_after ?l__law_after ?c__law_after ?k__law_after ?a__law_draw ?l__law_draw ?c__law_draw ?k__law_draw ?a__law_shuffled ?l__law_shuffled ?c__law_shuffled ?k__law_shuffled ?a__law_row ?l__law_row ?c__law_row ?k__law_row ?a__law_blocks ?l__law_blocks ?c__law_blocks ?k__law_blocks ?a__law_pen ?l__law_pen ?c__law_pen ?k__law_pen ?a_law ?l_law ?c_law ?k_law
    (case aR => first | k_is | rfl)
    (case aL => first | k_is | rfl)
    (case pg => first | k_is | rfl)
    (case hd => first | k_is | rfl)
    (case po => first | k_is | rfl)
    (case sa => first | k_is | rfl)
    (case mk => first | k_is | rfl)
    (case kc => first | k_is | rfl)
    (case sf => first | k_is | rfl)
    (case n1 => first | k_is | rfl)
    (case n2 => first | k_is | rfl)
    (case z0 => first | k_is | rfl)
    (case z1 => first | k_is | rfl)
    (case z2 => first | k_is | rfl)
    (case z3 => first | k_is | rfl)
    (case z4 => first | k_is | rfl)
    (case z5 => first | k_is | rfl)
    (case b_len => first | k_is | rfl)
    (case b_isinstance => first | k_is | rfl)
    (case b_int => first | k_is | rfl)
    (case b_bool => first | k_is | rfl)
    (case b_tuple => first | k_is | rfl)
    (case b_list => first | k_is | rfl)
    (case b_range => first | k_is | rfl)
    (case b_enumerate => first | k_is | rfl)
    (case b_min => first | k_is | rfl)
    (case g_MOST_SIZE => first | k_is | rfl)
    (case xst => first | k_is | rfl)
    (case xsu => first | k_is | rfl)
    (case xBadSize_aC => first | k_is | rfl)
    (case xBadSize_L => first | k_is | rfl)
    (case xBadSize_al => first | k_is | rfl)
    (case xBadSize_sa => first | k_is | rfl)
    (case xBadSize_ga => first | k_is | rfl)
    (case xBadSize_gg => first | k_is | rfl)
    (case xBadSize_no => first | k_is | rfl)
    (case xBadSize_iC => first | k_is | rfl)
    (case xBadSize_tC => first | k_is | rfl)
    (case xBadSize_kC => first | k_is | rfl)
    (case xBadSize_eC => first | k_is | rfl)
    (case xBadSize_vC => first | k_is | rfl)
    (case xBadSize_sl => first | k_is | rfl)
    (case xBadSize_ty => first | k_is | rfl)
    (case xBadSize_hd => first | k_is | rfl)
    (case xBadSize_is => first | k_is | rfl)
    (case xBadSize_fn => first | k_is | rfl)
    (case xBadSize_cd => first | k_is | rfl)
    (case xBadSize_ca => first | k_is | rfl)
    (case xBadSize_v2 => first | rfl | k_is)
    (case xBadSize_fi => first | rfl | decide +kernel | k_is)
    (case xBadSize_ce => first | k_is | rfl)
    (case a_is_integer => first | k_is | rfl)
    (case l_is_integer => first | k_is | rfl)
    (case c_is_integer => first | k_is | rfl)
    (case k_is_integer => first | k_is | rfl)
    (case a_parts_of => first | k_is | rfl)
    (case l_parts_of => first | k_is | rfl)
    (case c_parts_of => first | k_is | rfl)
    (case k_parts_of => first | k_is | rfl)
    (case a_sign_of => first | k_is | rfl)
    (case l_sign_of => first | k_is | rfl)
    (case c_sign_of => first | k_is | rfl)
    (case k_sign_of => first | k_is | rfl)
    (case a_is_less => first | k_is | rfl)
    (case l_is_less => first | k_is | rfl)
    (case c_is_less => first | k_is | rfl)
    (case k_is_less => first | k_is | rfl)
    (case a_is_same => first | k_is | rfl)
    (case l_is_same => first | k_is | rfl)
    (case c_is_same => first | k_is | rfl)
    (case k_is_same => first | k_is | rfl)
    (case a_greater => first | k_is | rfl)
    (case l_greater => first | k_is | rfl)
    (case c_greater => first | k_is | rfl)
    (case k_greater => first | k_is | rfl)
    (case a_lesser => first | k_is | rfl)
    (case l_lesser => first | k_is | rfl)
    (case c_lesser => first | k_is | rfl)
    (case k_lesser => first | k_is | rfl)
    (case a_joined_row => first | k_is | rfl)
    (case l_joined_row => first | k_is | rfl)
    (case c_joined_row => first | k_is | rfl)
    (case k_joined_row => first | k_is | rfl)
    (case a_in_form => first | k_is | rfl)
    (case l_in_form => first | k_is | rfl)
    (case c_in_form => first | k_is | rfl)
    (case k_in_form => first | k_is | rfl)
    (case a_pieces => first | k_is | rfl)
    (case l_pieces => first | k_is | rfl)
    (case c_pieces => first | k_is | rfl)
    (case k_pieces => first | k_is | rfl)
    (case a_by_start => first | k_is | rfl)
    (case l_by_start => first | k_is | rfl)
    (case c_by_start => first | k_is | rfl)
    (case k_by_start => first | k_is | rfl)
    (case a_Runs_init => first | k_is | rfl)
    (case i_Runs_init => first | k_is | rfl)
    (case l_Runs_init => first | k_is | rfl)
    (case c_Runs_init => first | k_is | rfl)
    (case k_Runs_init => first | k_is | rfl)
    (case a_Runs_mul => first | k_is | rfl)
    (case i_Runs_mul => first | k_is | rfl)
    (case l_Runs_mul => first | k_is | rfl)
    (case c_Runs_mul => first | k_is | rfl)
    (case k_Runs_mul => first | k_is | rfl)
    (case a_Runs_invert => first | k_is | rfl)
    (case i_Runs_invert => first | k_is | rfl)
    (case l_Runs_invert => first | k_is | rfl)
    (case c_Runs_invert => first | k_is | rfl)
    (case k_Runs_invert => first | k_is | rfl)
    (case a_need_row => first | k_is | rfl)
    (case l_need_row => first | k_is | rfl)
    (case c_need_row => first | k_is | rfl)
    (case k_need_row => first | k_is | rfl)
    (case a_runs_of_list => first | k_is | rfl)
    (case l_runs_of_list => first | k_is | rfl)
    (case c_runs_of_list => first | k_is | rfl)
    (case k_runs_of_list => first | k_is | rfl)
    (case a__law_form => first | k_is | rfl)
    (case l__law_form => first | k_is | rfl)
    (case c__law_form => first | k_is | rfl)
    (case k__law_form => first | k_is | rfl)
    (case a__law_after => first | k_is | rfl)
    (case l__law_after => first | k_is | rfl)
    (case c__law_after => first | k_is | rfl)
    (case k__law_after => first | k_is | rfl)
    (case a__law_draw => first | k_is | rfl)
    (case l__law_draw => first | k_is | rfl)
    (case c__law_draw => first | k_is | rfl)
    (case k__law_draw => first | k_is | rfl)
    (case a__law_shuffled => first | k_is | rfl)
    (case l__law_shuffled => first | k_is | rfl)
    (case c__law_shuffled => first | k_is | rfl)
    (case k__law_shuffled => first | k_is | rfl)
    (case a__law_row => first | k_is | rfl)
    (case l__law_row => first | k_is | rfl)
    (case c__law_row => first | k_is | rfl)
    (case k__law_row => first | k_is | rfl)
    (case a__law_blocks => first | k_is | rfl)
    (case l__law_blocks => first | k_is | rfl)
    (case c__law_blocks => first | k_is | rfl)
    (case k__law_blocks => first | k_is | rfl)
    (case a__law_pen => first | k_is | rfl)
    (case l__law_pen => first | k_is | rfl)
    (case c__law_pen => first | k_is | rfl)
    (case k__law_pen => first | k_is | rfl)
    (case a_law => first | k_is | rfl)
    (case l_law => first | k_is | rfl)
    (case c_law => first | k_is | rfl)
    (case k_law => first | k_is | rfl)
end

