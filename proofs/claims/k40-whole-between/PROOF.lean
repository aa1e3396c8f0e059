import PyProof.Rows.All
import Wide.All
import OpenK.AllK
import Wide.FinOn
import HandS.ForMost
import HandS.Zip
import HandS.TupAny
import HandS.Walk
import HandS.Defaults
import HandS.Property
import HandS.HeadHook1
import HandS.HeadHook2
import PySem.Challenge.RW_raisedwreck_k40_whole_between
import HandS.Style
import KE.GoesEnum
import HandS.Strs
import HandS.IsInst
import HandS.WideBits
import HandS.Steps
import HandS.Words
import KE.KStateDown
import Lean
import HandS.Head0
import HandS.Head1
import HandS.Head2
import HandS.HeadEnd
set_option Elab.async false
set_option linter.all false
set_option maxRecDepth 100000
set_option maxHeartbeats 4000000
/-! Worlds: a tracked heap H and its stable part G; slots; what an expression gives. -/
namespace R40
open PySem L2

/-- a tracked heap and its stable part -/
structure Wd where
  G : Hp
  H : Hp
  sub : ∀ a o, G a = some o → H a = some o
  tup : ∀ a vs, H a = some (.tup vs) → G a = some (.tup vs)
/-- w2 behind w1, what stands at B aside -/
structure LeB (B : List Addr) (w1 w2 : Wd) : Prop where
  g : ∀ a o, w1.G a = some o → w2.G a = some o
  h : ∀ a o, a ∉ B → w1.H a = some o → w2.H a = some o
  own : ∀ a o, a ∉ B → w1.H a = some o → w1.G a = none → w2.G a = none
abbrev Le (w1 w2 : Wd) : Prop := LeB [] w1 w2
theorem LeB.refl {B : List Addr} {w : Wd} : LeB B w w := ⟨fun _ _ h => h, fun _ _ _ h => h, fun _ _ _ _ h => h⟩
theorem LeB.trans {B : List Addr} {w1 w2 w3 : Wd} (a : LeB B w1 w2) (b : LeB B w2 w3) : LeB B w1 w3 :=
  ⟨fun x o h => b.g x o (a.g x o h), fun x o hx h => b.h x o hx (a.h x o hx h), fun x o hx h n => b.own x o hx (a.h x o hx h) (a.own x o hx h n)⟩
theorem LeB.up {B : List Addr} {w1 w2 : Wd} (a : Le w1 w2) : LeB B w1 w2 :=
  ⟨a.g, fun x o _ h => a.h x o List.not_mem_nil h, fun x o _ h n => a.own x o List.not_mem_nil h n⟩
/-- what w0 does not know may change -/
theorem Le.thenB {B : List Addr} {w0 w1 w2 : Wd} (a : Le w0 w1) (b : LeB B w1 w2) (hB : ∀ x ∈ B, w0.H x = none) : Le w0 w2 := by
  have ne : ∀ x o, w0.H x = some o → x ∉ B := fun x o h m => by
    rw [hB x m] at h
    cases h
  exact ⟨fun x o h => b.g x o (a.g x o h), fun x o _ h => b.h x o (ne x o h) (a.h x o List.not_mem_nil h), fun x o _ h n => b.own x o (ne x o h) (a.h x o List.not_mem_nil h) (a.own x o List.not_mem_nil h n)⟩
theorem Le.free {w1 w2 : Wd} (a : Le w1 w2) {p : Addr} (h : w2.H p = none) : w1.H p = none := by
  cases e : w1.H p with
  | none => rfl
  | some o =>
    rw [a.h p o List.not_mem_nil e] at h
    cases h
theorem Wd.gfree (w : Wd) {p : Addr} (h : w.H p = none) : w.G p = none := by
  cases e : w.G p with
  | none => rfl
  | some o =>
    rw [w.sub p o e] at h
    cases h
theorem keepU {H : Hp} {p a : Addr} {o : HO} {x : Option HO} (hn : a ≠ p) (h : H a = x) : upd H p o a = x := (upd_ne hn).trans h
theorem neN {H : Hp} {p a : Addr} {o : HO} (h : H a = some o) (n : H p = none) : a ≠ p := ne_of_none h n
/-- a new stable thing -/
abbrev Wd.new (w : Wd) (p : Addr) (o : HO) : Wd := ⟨upd w.G p o, upd w.H p o, fun a u h => by
  by_cases e : a = p
  · rw [e, upd_same] at h ⊢
    exact h
  · rw [upd_ne e] at h ⊢
    exact w.sub a u h, fun a vs h => by
  by_cases e : a = p
  · rw [e, upd_same] at h ⊢
    exact h
  · rw [upd_ne e] at h ⊢
    exact w.tup a vs h⟩
theorem Wd.le_new {w : Wd} {p : Addr} {o : HO} (hp : w.H p = none) : Le w (w.new p o) :=
  ⟨fun a u h => keepU (neN h (w.gfree hp)) h, fun a u _ h => keepU (neN h hp) h, fun a u _ h n => keepU (neN h hp) n⟩
/-- p, which is not stable, is written -/
abbrev Wd.put (w : Wd) (p : Addr) (o : HO) (hp : w.G p = none) (ht : ∀ vs, o ≠ .tup vs := by intro _ h; cases h) : Wd := ⟨w.G, upd w.H p o, fun a u h => by
  have e : a ≠ p := fun e => by rw [e, hp] at h; cases h
  rw [upd_ne e]
  exact w.sub a u h, fun a vs h => by
  by_cases e : a = p
  · rw [e, upd_same] at h
    exact absurd (Option.some.inj h) (ht vs)
  · rw [upd_ne e] at h
    exact w.tup a vs h⟩
theorem Wd.le_put {w : Wd} {p : Addr} {o : HO} {hp : w.G p = none} {ht : ∀ vs, o ≠ .tup vs} (h0 : w.H p = none) : Le w (w.put p o hp ht) :=
  ⟨fun _ _ h => h, fun a u _ h => keepU (neN h h0) h, fun _ _ _ _ n => n⟩
theorem Wd.leB_put {B : List Addr} {w : Wd} {p : Addr} {o : HO} {hp : w.G p = none} {ht : ∀ vs, o ≠ .tup vs} (hB : p ∈ B) : LeB B w (w.put p o hp ht) :=
  ⟨fun _ _ h => h, fun a u hx h => keepU (fun e => hx (by rw [e]; exact hB)) h, fun _ _ _ _ n => n⟩
theorem Le.put {w0 w : Wd} {p : Addr} {o : HO} {hp : w.G p = none} {ht : ∀ vs, o ≠ .tup vs} (a : Le w0 w) (h0 : w0.H p = none) : Le w0 (w.put p o hp ht) :=
  a.thenB (B := [p]) (Wd.leB_put (List.mem_singleton.mpr rfl)) (fun x m => by rw [List.mem_singleton.mp m]; exact h0)
/-- p becomes stable as it stands -/
abbrev Wd.frz (w : Wd) (p : Addr) (o : HO) (hp : w.H p = some o) : Wd := ⟨upd w.G p o, w.H, fun a u h => by
  by_cases e : a = p
  · rw [e, upd_same] at h
    rw [e, hp]
    exact h
  · rw [upd_ne e] at h
    exact w.sub a u h, fun a vs h => by
  by_cases e : a = p
  · rw [e, hp] at h
    rw [e, upd_same]
    exact h
  · rw [upd_ne e]
    exact w.tup a vs h⟩
theorem Wd.frz_leB {B : List Addr} {w : Wd} {p : Addr} {o : HO} {hp : w.H p = some o} (hg : w.G p = none) (hB : p ∈ B) : LeB B w (w.frz p o hp) :=
  ⟨fun a u h => keepU (neN h hg) h, fun _ _ _ h => h, fun a u hx h n => keepU (fun e => hx (by rw [e]; exact hB)) n⟩
theorem Le.frz {w0 w : Wd} {p : Addr} {o : HO} {hp : w.H p = some o} (a : Le w0 w) (hg : w.G p = none) (h0 : w0.H p = none) : Le w0 (w.frz p o hp) :=
  a.thenB (B := [p]) (Wd.frz_leB hg (List.mem_singleton.mpr rfl)) (fun x m => by rw [List.mem_singleton.mp m]; exact h0)

/-! ### slots: what is known of a value -/
structure Slot where
  P : Hp → V → Prop
  mono : ∀ {G G' : Hp} {v : V}, (∀ a o, G a = some o → G' a = some o) → P G v → P G' v
def sV (x : V) : Slot := ⟨fun _ v => v = x, fun _ h => h⟩
abbrev sInt (i : Int) : Slot := sV (.int i)
abbrev sNat (n : Nat) : Slot := sV (.int (n : Int))
abbrev sBl (b : Bool) : Slot := sV (.bl b)
abbrev sStr (x : Str) : Slot := sV (.str x)
abbrev sNon : Slot := sV .non
abbrev sRef (a : Addr) : Slot := sV (.ref a)
/-- a list of values, item by item -/
structure AllR {α : Type} (R : α → Slot) (G : Hp) (vs : List V) (xs : List α) : Prop where
  len : vs.length = xs.length
  at_ : ∀ (i : Nat) (v : V) (x : α), vs[i]? = some v → xs[i]? = some x → (R x).P G v
section
variable {α β : Type} {R : α → Slot} {S : β → Slot} {G G' : Hp} {vs ws : List V} {xs ys : List α}
theorem AllR.mono (k : ∀ a o, G a = some o → G' a = some o) (h : AllR R G vs xs) : AllR R G' vs xs := ⟨h.len, fun i v x a b => (R x).mono k (h.at_ i v x a b)⟩
theorem AllR.nil : AllR R G [] [] := ⟨rfl, fun i v x a => by simp at a⟩
theorem AllR.snoc {v : V} {x : α} (h : AllR R G vs xs) (hv : (R x).P G v) : AllR R G (vs ++ [v]) (xs ++ [x]) := by
  refine ⟨by rw [List.length_append, List.length_append, h.len]; rfl, fun i u y a b => ?_⟩
  by_cases hi : i < vs.length
  · rw [List.getElem?_append_left hi] at a
    rw [List.getElem?_append_left (by rw [← h.len]; exact hi)] at b
    exact h.at_ i u y a b
  · have hi' : vs.length ≤ i := Nat.le_of_not_lt hi
    rw [List.getElem?_append_right hi'] at a
    rw [List.getElem?_append_right (by rw [← h.len]; exact hi'), ← h.len] at b
    cases e : i - vs.length with
    | zero =>
      rw [e] at a b
      cases a
      cases b
      exact hv
    | succ n =>
      rw [e] at a
      cases a
theorem AllR.get {i : Nat} {x : α} (h : AllR R G vs xs) (hx : xs[i]? = some x) : ∃ v, vs[i]? = some v ∧ (R x).P G v := by
  have hi : i < vs.length := by
    rw [h.len]
    exact (List.getElem?_eq_some_iff.mp hx).1
  exact ⟨vs[i], List.getElem?_eq_getElem hi, h.at_ i _ x (List.getElem?_eq_getElem hi) hx⟩
theorem AllR.get' {i : Nat} {v : V} (h : AllR R G vs xs) (hv : vs[i]? = some v) : ∃ x, xs[i]? = some x ∧ (R x).P G v := by
  have hi : i < xs.length := by
    rw [← h.len]
    exact (List.getElem?_eq_some_iff.mp hv).1
  exact ⟨xs[i], List.getElem?_eq_getElem hi, h.at_ i v _ hv (List.getElem?_eq_getElem hi)⟩
theorem AllR.append (h : AllR R G vs xs) (h' : AllR R G ws ys) : AllR R G (vs ++ ws) (xs ++ ys) := by
  refine ⟨by rw [List.length_append, List.length_append, h.len, h'.len], fun i u y a b => ?_⟩
  by_cases hi : i < vs.length
  · rw [List.getElem?_append_left hi] at a
    rw [List.getElem?_append_left (by rw [← h.len]; exact hi)] at b
    exact h.at_ i u y a b
  · have hi' : vs.length ≤ i := Nat.le_of_not_lt hi
    rw [List.getElem?_append_right hi'] at a
    rw [List.getElem?_append_right (by rw [← h.len]; exact hi'), ← h.len] at b
    exact h'.at_ _ u y a b
theorem AllR.take (n : Nat) (h : AllR R G vs xs) : AllR R G (vs.take n) (xs.take n) := by
  refine ⟨by rw [List.length_take, List.length_take, h.len], fun i u y a b => ?_⟩
  rw [List.getElem?_take] at a b
  by_cases hi : i < n
  · rw [if_pos hi] at a b
    exact h.at_ i u y a b
  · rw [if_neg hi] at a
    cases a
theorem AllR.drop (n : Nat) (h : AllR R G vs xs) : AllR R G (vs.drop n) (xs.drop n) := by
  refine ⟨by rw [List.length_drop, List.length_drop, h.len], fun i u y a b => ?_⟩
  rw [List.getElem?_drop] at a b
  exact h.at_ _ u y a b
theorem AllR.cons {v : V} {x : α} (hv : (R x).P G v) (h : AllR R G vs xs) : AllR R G (v :: vs) (x :: xs) := by
  refine ⟨by rw [List.length_cons, List.length_cons, h.len], fun i u y a b => ?_⟩
  cases i with
  | zero =>
    cases a
    cases b
    exact hv
  | succ n => exact h.at_ n u y a b
theorem AllR.set {v : V} {x : α} (i : Nat) (hv : (R x).P G v) (h : AllR R G vs xs) : AllR R G (vs.set i v) (xs.set i x) := by
  refine ⟨by rw [List.length_set, List.length_set, h.len], fun j u y a b => ?_⟩
  by_cases e : i = j
  · subst e
    by_cases hi : i < vs.length
    · rw [List.getElem?_set_self hi] at a
      rw [List.getElem?_set_self (by rw [← h.len]; exact hi)] at b
      cases a
      cases b
      exact hv
    · rw [List.getElem?_eq_none (by rw [List.length_set]; omega)] at a
      cases a
  · rw [List.getElem?_set_ne e] at a b
    exact h.at_ j u y a b
theorem AllR.nilL (h : AllR R G [] xs) : xs = [] := List.eq_nil_of_length_eq_zero h.len.symm
theorem AllR.sV_eq {f : α → V} (h : AllR (fun x => sV (f x)) G vs xs) : vs = xs.map f := by
  refine List.ext_getElem? fun i => ?_
  rw [List.getElem?_map]
  cases e : xs[i]? with
  | none =>
    have hl : vs.length ≤ i := by
      rw [h.len]
      exact List.getElem?_eq_none_iff.mp e
    rw [List.getElem?_eq_none hl]
    rfl
  | some x =>
    obtain ⟨v, hv, hp⟩ := h.get e
    have hp' : v = f x := hp
    rw [hv, hp']
    rfl
theorem AllR.of_map {f : α → V} : AllR (fun x => sV (f x)) G (xs.map f) xs :=
  ⟨List.length_map _, fun i v x a b => by
    rw [List.getElem?_map, b] at a
    exact (Option.some.inj a).symm⟩
end
/-- a stable tuple, a stable list -/
def sTup {α : Type} (R : α → Slot) (xs : List α) : Slot :=
  ⟨fun G v => ∃ a vs, v = .ref a ∧ G a = some (.tup vs) ∧ AllR R G vs xs, fun k ⟨a, vs, e, h, r⟩ => ⟨a, vs, e, k a _ h, r.mono k⟩⟩
def sLst {α : Type} (R : α → Slot) (xs : List α) : Slot :=
  ⟨fun G v => ∃ a vs, v = .ref a ∧ G a = some (.lst vs) ∧ AllR R G vs xs, fun k ⟨a, vs, e, h, r⟩ => ⟨a, vs, e, k a _ h, r.mono k⟩⟩
def sT2 (s t : Slot) : Slot := ⟨fun G v => ∃ a x y, v = .ref a ∧ G a = some (.tup [x, y]) ∧ s.P G x ∧ t.P G y, fun k ⟨a, x, y, e, h, p, q⟩ => ⟨a, x, y, e, k a _ h, s.mono k p, t.mono k q⟩⟩
def sT3 (s t u : Slot) : Slot :=
  ⟨fun G v => ∃ a x y z, v = .ref a ∧ G a = some (.tup [x, y, z]) ∧ s.P G x ∧ t.P G y ∧ u.P G z, fun k ⟨a, x, y, z, e, h, p, q, r⟩ => ⟨a, x, y, z, e, k a _ h, s.mono k p, t.mono k q, u.mono k r⟩⟩
def sOpt {α : Type} (R : α → Slot) : Option α → Slot
  | none => sNon
  | some x => R x
/-- one of these -/
def sEx {ι : Type} (p : ι → Prop) (S : ι → Slot) : Slot := ⟨fun G v => ∃ i, p i ∧ (S i).P G v, fun k ⟨i, h, q⟩ => ⟨i, h, (S i).mono k q⟩⟩
/-- a stable instance: its class, its attributes -/
def sIns (C : Addr) (fs : List (Str × Slot)) : Slot :=
  ⟨fun G v => ∃ a dx vs, v = .ref a ∧ G a = some (.ins C dx vs) ∧ vs.map (·.1) = fs.map (·.1) ∧ ∀ (i : Nat) (p : Str × V) (q : Str × Slot), vs[i]? = some p → fs[i]? = some q → q.2.P G p.2,
    fun k ⟨a, dx, vs, e, h, m, r⟩ => ⟨a, dx, vs, e, k a _ h, m, fun i p q x y => q.2.mono k (r i p q x y)⟩⟩
theorem Slot.up {s : Slot} {w1 w2 : Wd} {v : V} {B : List Addr} (l : LeB B w1 w2) (h : s.P w1.G v) : s.P w2.G v := s.mono l.g h

/-! ### the slots of a frame -/
abbrev Env := List (Option Slot)
structure EnvOk (G : Hp) (σ : L2.St) (Γ : Env) : Prop where
  len : σ.length = Γ.length
  at_ : ∀ (i : Nat) (s : Slot), Γ[i]? = some (some s) → ∃ v, σ[i]? = some (some v) ∧ s.P G v
theorem EnvOk.mono {G G' : Hp} {σ : L2.St} {Γ : Env} (k : ∀ a o, G a = some o → G' a = some o) (h : EnvOk G σ Γ) : EnvOk G' σ Γ :=
  ⟨h.len, fun i s e => let ⟨v, a, b⟩ := h.at_ i s e; ⟨v, a, s.mono k b⟩⟩
theorem EnvOk.up {w1 w2 : Wd} {σ : L2.St} {Γ : Env} {B : List Addr} (h : EnvOk w1.G σ Γ) (l : LeB B w1 w2) : EnvOk w2.G σ Γ := h.mono l.g
theorem EnvOk.set {G : Hp} {σ : L2.St} {Γ : Env} {i : Nat} {v : V} {s : Slot} (h : EnvOk G σ Γ) (hv : s.P G v) : EnvOk G (σ.set i (some v)) (Γ.set i (some s)) := by
  refine ⟨by rw [List.length_set, List.length_set, h.len], fun j t e => ?_⟩
  by_cases q : i = j
  · subst q
    by_cases hi : i < Γ.length
    · rw [List.getElem?_set_self hi] at e
      have et : s = t := Option.some.inj (Option.some.inj e)
      exact ⟨v, List.getElem?_set_self (by rw [h.len]; exact hi), et ▸ hv⟩
    · rw [List.getElem?_eq_none (by rw [List.length_set]; omega)] at e
      cases e
  · rw [List.getElem?_set_ne q] at e ⊢
    exact h.at_ j t e
theorem EnvOk.drop {G : Hp} {σ : L2.St} {Γ : Env} (h : EnvOk G σ Γ) (i : Nat) : EnvOk G σ (Γ.set i none) := by
  refine ⟨by rw [List.length_set, h.len], fun j t e => ?_⟩
  by_cases q : i = j
  · subst q
    by_cases hi : i < Γ.length
    · rw [List.getElem?_set_self hi] at e
      cases Option.some.inj e
    · rw [List.getElem?_eq_none (by rw [List.length_set]; omega)] at e
      cases e
  · rw [List.getElem?_set_ne q] at e
    exact h.at_ j t e
def drops (Γ : Env) (js : List Nat) : Env := js.foldl (fun g j => g.set j none) Γ
theorem EnvOk.drops {G : Hp} {σ : L2.St} : ∀ {js : List Nat} {Γ : Env}, EnvOk G σ Γ → EnvOk G σ (R40.drops Γ js)
  | [], _, h => h
  | j :: r, Γ, h => EnvOk.drops (js := r) (h.drop j)
theorem EnvOk.imp {G : Hp} {σ : L2.St} {Γ : Env} {i : Nat} {s t : Slot} (h : EnvOk G σ Γ) (hi : Γ[i]? = some (some s)) (k : ∀ v, s.P G v → t.P G v) : EnvOk G σ (Γ.set i (some t)) := by
  refine ⟨by rw [List.length_set, h.len], fun j u e => ?_⟩
  by_cases q : i = j
  · subst q
    have hi' : i < Γ.length := (List.getElem?_eq_some_iff.mp hi).1
    rw [List.getElem?_set_self hi'] at e
    have et : t = u := Option.some.inj (Option.some.inj e)
    obtain ⟨v, a, b⟩ := h.at_ i s hi
    exact ⟨v, a, et ▸ k v b⟩
  · rw [List.getElem?_set_ne q] at e
    exact h.at_ j u e

/-! ### what an expression gives -/
def E (te : TE) (Γ : Env) (w : Wd) (s : Slot) : Prop := ∀ (σ : L2.St) (w1 : Wd), Le w w1 → EnvOk w1.G σ Γ → ∀ Q : VK, (∀ v w2, Le w1 w2 → s.P w2.G v → Q v w2.H) → te σ w1.H Q
/-- a new list of one's own -/
def EL {α : Type} (te : TE) (Γ : Env) (w : Wd) (R : α → Slot) (xs : List α) : Prop := ∀ (σ : L2.St) (w1 : Wd), Le w w1 → EnvOk w1.G σ Γ →
  ∀ Q : VK, (∀ p vs w2, Le w1 w2 → w1.H p = none → w2.G p = none → w2.H p = some (.lst vs) → AllR R w2.G vs xs → Q (.ref p) w2.H) → te σ w1.H Q
def ET (tt : TT) (Γ : Env) (w : Wd) (b : Bool) : Prop := ∀ (σ : L2.St) (w1 : Wd), Le w w1 → EnvOk w1.G σ Γ → ∀ Q : Bool → Hp → Prop, (∀ w2, Le w1 w2 → Q b w2.H) → tt σ w1.H Q
inductive Args (G : Hp) : List V → List Slot → Prop where
  | nil : Args G [] []
  | cons {v : V} {s : Slot} {vs : List V} {ss : List Slot} : s.P G v → Args G vs ss → Args G (v :: vs) (s :: ss)
theorem Args.mono {G G' : Hp} {vs : List V} {ss : List Slot} (k : ∀ a o, G a = some o → G' a = some o) (h : Args G vs ss) : Args G' vs ss := by
  induction h with
  | nil => exact .nil
  | cons a _ ih => exact .cons (Slot.mono _ k a) ih
theorem Args.len {G : Hp} {vs : List V} {ss : List Slot} (h : Args G vs ss) : vs.length = ss.length := by
  induction h with
  | nil => rfl
  | cons a _ ih => rw [List.length_cons, List.length_cons, ih]
def EA (ta : TA) (Γ : Env) (w : Wd) (ss : List Slot) : Prop := ∀ (σ : L2.St) (w1 : Wd), Le w w1 → EnvOk w1.G σ Γ → ∀ Q : List V → Hp → Prop, (∀ vs w2, Le w1 w2 → Args w2.G vs ss → Q vs w2.H) → ta σ w1.H Q
section
variable {Γ : Env} {w : Wd} {s t u : Slot} {te ta tb tc : TE} {tt tu : TT} {K : PySem.W.Frag}
theorem E.imp (h : E te Γ w s) (k : ∀ G v, s.P G v → t.P G v) : E te Γ w t := fun σ w1 l o Q q => h σ w1 l o Q fun v w2 l2 p => q v w2 l2 (k _ v p)
theorem EL.e {α : Type} {R : α → Slot} {xs : List α} (h : EL te Γ w R xs) : E te Γ w (sLst R xs) := fun σ w1 l o Q q =>
  h σ w1 l o Q fun p vs w2 l2 n1 n2 hp r => q (.ref p) (w2.frz p (.lst vs) hp) (l2.frz n2 n1) ⟨p, vs, rfl, upd_same, r.mono fun a o e => keepU (neN e n2) e⟩
theorem EL.imp {α β : Type} {R : α → Slot} {xs : List α} {S : β → Slot} {ys : List β} (h : EL te Γ w R xs) (k : ∀ G vs, AllR R G vs xs → AllR S G vs ys) : EL te Γ w S ys := fun σ w1 l o Q q =>
  h σ w1 l o Q fun p vs w2 l2 n1 n2 hp r => q p vs w2 l2 n1 n2 hp (k _ _ r)
theorem e_var {i : Nat} (h : Γ[i]? = some (some s)) : E (tVar i) Γ w s := fun σ w1 _ o Q q =>
  let ⟨v, a, b⟩ := o.at_ i s h
  ⟨v, a, q v w1 .refl b⟩
theorem e_c {v : V} : E (tC v) Γ w (sV v) := fun σ w1 _ _ Q q => q v w1 .refl rfl
/-- an operator on ints, its value told -/
theorem e_I0 {g : Int → Int → V} {i j : Int} (ha : E ta Γ w (sInt i)) (hb : E tb Γ w (sInt j)) : E (tOp (rI0 g) ta tb) Γ w (sV (g i j)) := fun σ w1 l o Q q =>
  ha σ w1 l o _ fun v w2 l2 p => hb σ w2 (l.trans l2) (o.up l2) _ fun u w3 l3 p' => ⟨i, j, p, p', q _ w3 (l2.trans l3) rfl⟩
theorem e_I {C : Int → Int → Prop} {g : Int → Int → V} {i j : Int} (hc : C i j) (ha : E ta Γ w (sInt i)) (hb : E tb Γ w (sInt j)) : E (tOp (rI C g) ta tb) Γ w (sV (g i j)) := fun σ w1 l o Q q =>
  ha σ w1 l o _ fun v w2 l2 p => hb σ w2 (l.trans l2) (o.up l2) _ fun u w3 l3 p' => ⟨i, j, p, p', hc, q _ w3 (l2.trans l3) rfl⟩
/-- any operator by values; r holds where its operands are known -/
theorem e_op {r : R2} (ha : E ta Γ w s) (hb : E tb Γ w t) (hr : ∀ (w2 : Wd) (x y : V) (Q : VK), Le w w2 → s.P w2.G x → t.P w2.G y → (∀ v w3, Le w2 w3 → u.P w3.G v → Q v w3.H) → r x y w2.H Q) : E (tOp r ta tb) Γ w u := fun σ w1 l o Q q =>
  ha σ w1 l o _ fun v w2 l2 p => hb σ w2 (l.trans l2) (o.up l2) _ fun z w3 l3 p' => hr w3 v z Q (l.trans (l2.trans l3)) (Slot.up l3 p) p' fun v' w4 l4 p4 => q v' w4 (l2.trans (l3.trans l4)) p4
theorem e_eq {x y : V} (h : scal x y = true) (ha : E ta Γ w (sV x)) (hb : E tb Γ w (sV y)) : E (tOp rEq ta tb) Γ w (sBl (decide (x = y))) := fun σ w1 l o Q q =>
  ha σ w1 l o _ fun v w2 l2 p => hb σ w2 (l.trans l2) (o.up l2) _ fun u w3 l3 p' => by
    cases p
    cases p'
    exact ⟨h, q _ w3 (l2.trans l3) rfl⟩
theorem e_ne {x y : V} (h : scal x y = true) (ha : E ta Γ w (sV x)) (hb : E tb Γ w (sV y)) : E (tOp rNe ta tb) Γ w (sBl (!decide (x = y))) := fun σ w1 l o Q q =>
  ha σ w1 l o _ fun v w2 l2 p => hb σ w2 (l.trans l2) (o.up l2) _ fun u w3 l3 p' => by
    cases p
    cases p'
    exact ⟨h, q _ w3 (l2.trans l3) rfl⟩
/-- s[i] of a stable tuple, list; of a text -/
theorem atI_of {α : Type} {xs : List α} {i : Nat} {x : α} (h : xs[i]? = some x) : atI xs (i : Int) = some x := atI_nat h
theorem e_ixT {α : Type} {R : α → Slot} {xs : List α} {i : Nat} {x : α} (h : xs[i]? = some x) (ha : E ta Γ w (sTup R xs)) (hb : E tb Γ w (sNat i)) : E (tOp (rIxT K) ta tb) Γ w (R x) :=
  e_op ha hb fun w2 v y Q _ p p' q => by
    obtain ⟨a, vs, rfl, ha, r⟩ := p
    cases p'
    obtain ⟨z, hz, rz⟩ := r.get h
    exact ⟨a, vs, _, z, rfl, rfl, SqT.of (w2.sub _ _ ha), atI_of hz, q z w2 .refl rz⟩
theorem e_ixL {α : Type} {R : α → Slot} {xs : List α} {i : Nat} {x : α} (h : xs[i]? = some x) (ha : E ta Γ w (sLst R xs)) (hb : E tb Γ w (sNat i)) : E (tOp (rIxL K) ta tb) Γ w (R x) :=
  e_op ha hb fun w2 v y Q _ p p' q => by
    obtain ⟨a, vs, rfl, ha, r⟩ := p
    cases p'
    obtain ⟨z, hz, rz⟩ := r.get h
    exact ⟨a, vs, _, z, rfl, rfl, SqL.of (w2.sub _ _ ha), atI_of hz, q z w2 .refl rz⟩
theorem e_ixS {z : Str} {i : Nat} {c : Nat} (h : z.cps.toList[i]? = some c) (hz : z.length ≤ sizeLine) (ha : E ta Γ w (sStr z)) (hb : E tb Γ w (sNat i)) : E (tOp rIxS ta tb) Γ w (sStr ⟨#[c]⟩) :=
  e_op ha hb fun w2 v y Q _ p p' q => by
    cases p
    cases p'
    exact ⟨z, _, c, rfl, rfl, hz, atI_of h, q _ w2 .refl rfl⟩
/-- of a list of one's own -/
theorem e_ixO {α : Type} {R : α → Slot} {l : Addr} {vs : List V} {xs : List α} {i : Nat} {x : α} (hl : w.H l = some (.lst vs)) (r : AllR R w.G vs xs) (h : xs[i]? = some x) (ha : E ta Γ w (sRef l)) (hb : E tb Γ w (sNat i)) :
    E (tOp (rIxL K) ta tb) Γ w (R x) :=
  e_op ha hb fun w2 v y Q l2 p p' q => by
    cases p
    cases p'
    obtain ⟨z, hz, rz⟩ := r.get h
    exact ⟨l, vs, _, z, rfl, rfl, SqL.of (l2.h _ _ List.not_mem_nil hl), atI_of hz, q z w2 .refl (Slot.up l2 rz)⟩
theorem ea_nil : EA tNil Γ w [] := fun σ w1 _ _ Q q => q [] w1 .refl .nil
theorem ea_cons {tr : TA} {ss : List Slot} (h : E te Γ w s) (hr : EA tr Γ w ss) : EA (tCons te tr) Γ w (s :: ss) := fun σ w1 l o Q q =>
  h σ w1 l o _ fun v w2 l2 p => hr σ w2 (l.trans l2) (o.up l2) _ fun vs w3 l3 a => q (v :: vs) w3 (l2.trans l3) (.cons (Slot.up l3 p) a)
theorem e_tup2 (ha : E ta Γ w s) (hb : E tb Γ w t) : E (tTup (tCons ta (tCons tb tNil))) Γ w (sT2 s t) := fun σ w1 l o Q q =>
  ha σ w1 l o _ fun v w2 l2 p => hb σ w2 (l.trans l2) (o.up l2) _ fun z w3 l3 p' => ⟨by show 2 ≤ sizeLine; decide, fun a na =>
    q (.ref a) (w3.new a (.tup [v, z])) (l2.trans (l3.trans (Wd.le_new na))) ⟨a, v, z, rfl, upd_same, Slot.up (l3.trans (Wd.le_new na)) p, Slot.up (Wd.le_new na) p'⟩⟩
theorem e_tup3 (ha : E ta Γ w s) (hb : E tb Γ w t) (hc : E tc Γ w u) : E (tTup (tCons ta (tCons tb (tCons tc tNil)))) Γ w (sT3 s t u) := fun σ w1 l o Q q =>
  ha σ w1 l o _ fun v w2 l2 p => hb σ w2 (l.trans l2) (o.up l2) _ fun z w3 l3 p' => hc σ w3 (l.trans (l2.trans l3)) ((o.up l2).up l3) _ fun y w4 l4 p4 => ⟨by show 3 ≤ sizeLine; decide, fun a na =>
    q (.ref a) (w4.new a (.tup [v, z, y])) (l2.trans (l3.trans (l4.trans (Wd.le_new na)))) ⟨a, v, z, y, rfl, upd_same, Slot.up (l3.trans (l4.trans (Wd.le_new na))) p, Slot.up (l4.trans (Wd.le_new na)) p', Slot.up (Wd.le_new na) p4⟩⟩
/-- a tuple of so many alike -/
theorem e_tup0 {α : Type} {R : α → Slot} : E (tTup tNil) Γ w (sTup R []) := fun σ w1 l o Q q => ⟨by show 0 ≤ sizeLine; decide, fun a na => q (.ref a) (w1.new a (.tup [])) (Wd.le_new na) ⟨a, [], rfl, upd_same, .nil⟩⟩
theorem e_tup1 {α : Type} {R : α → Slot} {x : α} (ha : E ta Γ w (R x)) : E (tTup (tCons ta tNil)) Γ w (sTup R [x]) := fun σ w1 l o Q q =>
  ha σ w1 l o _ fun v w2 l2 p => ⟨by show 1 ≤ sizeLine; decide, fun a na => q (.ref a) (w2.new a (.tup [v])) (l2.trans (Wd.le_new na)) ⟨a, [v], rfl, upd_same, .cons (Slot.up (Wd.le_new na) p) .nil⟩⟩
theorem el_nil {α : Type} {R : α → Slot} : EL (tLst tNil) Γ w R ([] : List α) := fun σ w1 l o Q q => ⟨by show 0 ≤ sizeLine; decide, fun a na =>
  q a [] (w1.put a (.lst []) (w1.gfree na)) (Wd.le_put na) na (w1.gfree na) upd_same .nil⟩
theorem el_one {α : Type} {R : α → Slot} {x : α} (ha : E ta Γ w (R x)) : EL (tLst (tCons ta tNil)) Γ w R [x] := fun σ w1 l o Q q =>
  ha σ w1 l o _ fun v w2 l2 p => ⟨by show 1 ≤ sizeLine; decide, fun a na =>
    q a [v] (w2.put a (.lst [v]) (w2.gfree na)) (l2.trans (Wd.le_put na)) (l2.free na) (w2.gfree na) upd_same (.cons p .nil)⟩
/-- len, list(..), tuple(..) -/
abbrev rLenS (K : PySem.W.Frag) : List V → Hp → VK → Prop := fun xs H Q => ∃ p ys, xs = [.ref p] ∧ (SqL K H p ys ∨ SqT K H p ys) ∧ Q (.int ys.length) H
theorem e_lenT {α : Type} {R : α → Slot} {xs : List α} (ha : E ta Γ w (sTup R xs)) : E (tCB (rLenS K) (tCons ta tNil)) Γ w (sNat xs.length) := fun σ w1 l o Q q =>
  ha σ w1 l o _ fun v w2 l2 p => by
    obtain ⟨a, vs, rfl, h, r⟩ := p
    exact ⟨a, vs, rfl, .inr (SqT.of (w2.sub _ _ h)), q _ w2 l2 (by rw [r.len]; rfl)⟩
theorem e_lenL {α : Type} {R : α → Slot} {xs : List α} (ha : E ta Γ w (sLst R xs)) : E (tCB (rLenS K) (tCons ta tNil)) Γ w (sNat xs.length) := fun σ w1 l o Q q =>
  ha σ w1 l o _ fun v w2 l2 p => by
    obtain ⟨a, vs, rfl, h, r⟩ := p
    exact ⟨a, vs, rfl, .inl (SqL.of (w2.sub _ _ h)), q _ w2 l2 (by rw [r.len]; rfl)⟩
theorem e_lenO {l : Addr} {vs : List V} (hl : w.H l = some (.lst vs)) (ha : E ta Γ w (sRef l)) : E (tCB (rLenS K) (tCons ta tNil)) Γ w (sNat vs.length) := fun σ w1 lw o Q q =>
  ha σ w1 lw o _ fun v w2 l2 p => by
    cases p
    exact ⟨l, vs, rfl, .inl (SqL.of ((lw.trans l2).h _ _ List.not_mem_nil hl)), q _ w2 l2 rfl⟩
abbrev rLenStr : List V → Hp → VK → Prop := fun xs H Q => ∃ z : Str, xs = [.str z] ∧ z.length ≤ sizeLine ∧ Q (.int z.length) H
theorem e_lenS {z : Str} (hz : z.length ≤ sizeLine) (ha : E ta Γ w (sStr z)) : E (tCB rLenStr (tCons ta tNil)) Γ w (sNat z.length) := fun σ w1 l o Q q =>
  ha σ w1 l o _ fun v w2 l2 p => by
    cases p
    exact ⟨z, rfl, hz, q _ w2 l2 rfl⟩
abbrev rListOf (K : PySem.W.Frag) : List V → Hp → VK → Prop := fun xs H Q => ∃ p ys, xs = [.ref p] ∧ (SqL K H p ys ∨ SqT K H p ys) ∧ ∀ l, H l = none → Q (.ref l) (upd H l (.lst ys))
theorem el_listT {α : Type} {R : α → Slot} {xs : List α} (ha : E ta Γ w (sTup R xs)) : EL (tCB (rListOf K) (tCons ta tNil)) Γ w R xs := fun σ w1 l o Q q =>
  ha σ w1 l o _ fun v w2 l2 p => by
    obtain ⟨a, vs, rfl, h, r⟩ := p
    exact ⟨a, vs, rfl, .inr (SqT.of (w2.sub _ _ h)), fun b nb => q b vs (w2.put b (.lst vs) (w2.gfree nb)) (l2.trans (Wd.le_put nb)) (l2.free nb) (w2.gfree nb) upd_same r⟩
theorem el_listL {α : Type} {R : α → Slot} {xs : List α} (ha : E ta Γ w (sLst R xs)) : EL (tCB (rListOf K) (tCons ta tNil)) Γ w R xs := fun σ w1 l o Q q =>
  ha σ w1 l o _ fun v w2 l2 p => by
    obtain ⟨a, vs, rfl, h, r⟩ := p
    exact ⟨a, vs, rfl, .inl (SqL.of (w2.sub _ _ h)), fun b nb => q b vs (w2.put b (.lst vs) (w2.gfree nb)) (l2.trans (Wd.le_put nb)) (l2.free nb) (w2.gfree nb) upd_same r⟩
abbrev rTupOf (K : PySem.W.Frag) : List V → Hp → VK → Prop := fun xs H Q => ∃ p ys, xs = [.ref p] ∧ ((SqL K H p ys ∧ ∀ l, H l = none → Q (.ref l) (upd H l (.tup ys))) ∨ (SqT K H p ys ∧ Q (.ref p) H))
theorem e_tupT {α : Type} {R : α → Slot} {xs : List α} (ha : E ta Γ w (sTup R xs)) : E (tCB (rTupOf K) (tCons ta tNil)) Γ w (sTup R xs) := fun σ w1 l o Q q =>
  ha σ w1 l o _ fun v w2 l2 p => by
    obtain ⟨a, vs, rfl, h, r⟩ := p
    exact ⟨a, vs, rfl, .inr ⟨SqT.of (w2.sub _ _ h), q _ w2 l2 ⟨a, vs, rfl, h, r⟩⟩⟩
theorem e_tupL {α : Type} {R : α → Slot} {xs : List α} (ha : E ta Γ w (sLst R xs)) : E (tCB (rTupOf K) (tCons ta tNil)) Γ w (sTup R xs) := fun σ w1 l o Q q =>
  ha σ w1 l o _ fun v w2 l2 p => by
    obtain ⟨a, vs, rfl, h, r⟩ := p
    exact ⟨a, vs, rfl, .inl ⟨SqL.of (w2.sub _ _ h), fun b nb => q (.ref b) (w2.new b (.tup vs)) (l2.trans (Wd.le_new nb)) ⟨b, vs, rfl, upd_same, r.mono (Wd.le_new (o := .tup vs) nb).g⟩⟩⟩
theorem e_tupN {α : Type} {R : α → Slot} {xs : List α} (ha : EL ta Γ w R xs) : E (tCB (rTupOf K) (tCons ta tNil)) Γ w (sTup R xs) := e_tupL ha.e
theorem e_tupO {α : Type} {R : α → Slot} {xs : List α} {l : Addr} {vs : List V} (hl : w.H l = some (.lst vs)) (r : AllR R w.G vs xs) (ha : E ta Γ w (sRef l)) : E (tCB (rTupOf K) (tCons ta tNil)) Γ w (sTup R xs) := fun σ w1 lw o Q q =>
  ha σ w1 lw o _ fun v w2 l2 p => by
    cases p
    exact ⟨l, vs, rfl, .inl ⟨SqL.of ((lw.trans l2).h _ _ List.not_mem_nil hl), fun b nb => q (.ref b) (w2.new b (.tup vs)) (l2.trans (Wd.le_new nb)) ⟨b, vs, rfl, upd_same, r.mono fun a o e => (lw.trans (l2.trans (Wd.le_new (o := .tup vs) nb))).g a o e⟩⟩⟩
/-! ### tests -/
theorem t_test {b : Bool} (h : E te Γ w (sBl b)) : ET (tTest te) Γ w b := fun σ w1 l o Q q => h σ w1 l o _ fun v w2 l2 p => ⟨b, p, q w2 l2⟩
theorem t_B {b : Bool} (h : E te Γ w (sBl b)) : ET (tB te) Γ w b := fun σ w1 l o Q q => h σ w1 l o _ fun v w2 l2 p => ⟨b, p, q w2 l2⟩
theorem t_and {a b : Bool} (h1 : ET tt Γ w a) (h2 : a = true → ET tu Γ w b) : ET (tAnd tt tu) Γ w (a && b) := fun σ w1 l o Q q => h1 σ w1 l o _ fun w2 l2 => by
  cases a with
  | true => exact iteT (h2 rfl σ w2 (l.trans l2) (o.up l2) Q fun w3 l3 => q w3 (l2.trans l3))
  | false => exact iteF (q w2 l2)
theorem t_or {a b : Bool} (h1 : ET tt Γ w a) (h2 : a = false → ET tu Γ w b) : ET (tOr tt tu) Γ w (a || b) := fun σ w1 l o Q q => h1 σ w1 l o _ fun w2 l2 => by
  cases a with
  | true => exact iteT (q w2 l2)
  | false => exact iteF (h2 rfl σ w2 (l.trans l2) (o.up l2) Q fun w3 l3 => q w3 (l2.trans l3))
theorem t_not {a : Bool} (h : ET tt Γ w a) : ET (tNot tt) Γ w (!a) := fun σ w1 l o Q q => h σ w1 l o _ fun w2 l2 => q w2 l2
theorem t_is {a b : Bool} (h : ET tt Γ w a) (e : a = b) : ET tt Γ w b := e ▸ h
theorem e_is (h : E te Γ w s) (e : s = t) : E te Γ w t := e ▸ h
theorem e_int {i j : Int} (h : E te Γ w (sInt i)) (e : i = j) : E te Γ w (sInt j) := e ▸ h
theorem e_bl {i j : Bool} (h : E te Γ w (sBl i)) (e : i = j) : E te Γ w (sBl j) := e ▸ h
theorem e_if {b : Bool} (h : ET tt Γ w b) (h1 : b = true → E ta Γ w s) (h2 : b = false → E tb Γ w s) : E (tIf tt ta tb) Γ w s := fun σ w1 l o Q q => h σ w1 l o _ fun w2 l2 => by
  cases b with
  | true => exact iteT (h1 rfl σ w2 (l.trans l2) (o.up l2) Q fun v w3 l3 => q v w3 (l2.trans l3))
  | false => exact iteF (h2 rfl σ w2 (l.trans l2) (o.up l2) Q fun v w3 l3 => q v w3 (l2.trans l3))
theorem e_notV {a : Bool} (h : E te Γ w (sBl a)) : E (tNotV te) Γ w (sBl (!a)) := fun σ w1 l o Q q => h σ w1 l o _ fun v w2 l2 p => ⟨a, p, q _ w2 l2 rfl⟩
theorem e_andV {a b : Bool} (h1 : E ta Γ w (sBl a)) (h2 : a = true → E tb Γ w (sBl b)) : E (tAndV ta tb) Γ w (sBl (a && b)) := fun σ w1 l o Q q => h1 σ w1 l o _ fun v w2 l2 p => ⟨a, p, by
  cases a with
  | true => exact iteT (h2 rfl σ w2 (l.trans l2) (o.up l2) Q fun v w3 l3 => q v w3 (l2.trans l3))
  | false => exact iteF (q _ w2 l2 rfl)⟩
theorem e_orV {a b : Bool} (h1 : E ta Γ w (sBl a)) (h2 : a = false → E tb Γ w (sBl b)) : E (tOrV ta tb) Γ w (sBl (a || b)) := fun σ w1 l o Q q => h1 σ w1 l o _ fun v w2 l2 p => ⟨a, p, by
  cases a with
  | true => exact iteT (q _ w2 l2 rfl)
  | false => exact iteF (h2 rfl σ w2 (l.trans l2) (o.up l2) Q fun v w3 l3 => q v w3 (l2.trans l3))⟩
/-- a < b < c and its like on ints -/
theorem e_chain {g g' : Int → Int → Bool} {i j k : Int} (ha : E ta Γ w (sInt i)) (hb : E tb Γ w (sInt j)) (hc : g i j = true → E tc Γ w (sInt k)) :
    E (tChain (rI0 fun i j => .bl (g i j)) (rI0 fun i j => .bl (g' i j)) ta tb tc) Γ w (sBl (g i j && g' j k)) := fun σ w1 l o Q q =>
  ha σ w1 l o _ fun v w2 l2 p => hb σ w2 (l.trans l2) (o.up l2) _ fun u w3 l3 p' => ⟨i, j, p, p', g i j, rfl, by
    cases e : g i j with
    | true =>
      rw [e] at q
      exact iteT (hc e σ w3 (l.trans (l2.trans l3)) ((o.up l2).up l3) _ fun z w4 l4 p4 => ⟨j, k, p', p4, q _ w4 (l2.trans (l3.trans l4)) rfl⟩)
    | false =>
      rw [e] at q
      exact iteF (q _ w3 (l2.trans l3) rfl)⟩
/-- is None, is not None -/
theorem e_isN (b : Bool) (hs : ∀ G v, s.P G v → decide (v = V.non) = b) (ha : E ta Γ w s) :
    E (tOp (fun x y H Q => y = .non ∧ Q (.bl (decide (x = .non))) H) ta (tC .non)) Γ w (sBl b) := fun σ w1 l o Q q =>
  ha σ w1 l o _ fun v w2 l2 p => ⟨rfl, by rw [hs _ _ p]; exact q _ w2 l2 rfl⟩
theorem e_notN (b : Bool) (hs : ∀ G v, s.P G v → (!decide (v = V.non)) = b) (ha : E ta Γ w s) :
    E (tOp (fun x y H Q => y = .non ∧ Q (.bl (!decide (x = .non))) H) ta (tC .non)) Γ w (sBl b) := fun σ w1 l o Q q =>
  ha σ w1 l o _ fun v w2 l2 p => ⟨rfl, by rw [hs _ _ p]; exact q _ w2 l2 rfl⟩
end
/-- what is a reference is not None -/
theorem tup_notNon {α : Type} {R : α → Slot} {xs : List α} : ∀ G v, (sTup R xs).P G v → decide (v = V.non) = false := fun G v ⟨a, vs, e, _⟩ => by rw [e]; rfl
end R40

set_option Elab.async false
set_option linter.all false
set_option maxRecDepth 100000
set_option maxHeartbeats 4000000
/-! Sources, targets, statements, comprehensions, calls over worlds. -/
namespace R40
open PySem PySem.Spec PyProof.Rows L2

/-! ### what a for walks -/
structure TW {α : Type} (J : It) (xs : List α) (R : α → Slot) (S : Wd → Prop) : Prop where
  go : ∀ i w, i < xs.length → S w → J.go i w.H
  stop : ∀ w, S w → J.stop xs.length w.H
  yld : ∀ i w v H' x, xs[i]? = some x → S w → J.yld i w.H v H' → ∃ w', H' = w'.H ∧ Le w w' ∧ (R x).P w'.G v
/-- the stable part has grown alone -/
abbrev Gx (w1 w2 : Wd) : Prop := ∀ a o, w1.G a = some o → w2.G a = some o
def I {α : Type} (wi : TI) (Γ : Env) (w : Wd) (xs : List α) (R : α → Slot) : Prop := ∀ (σ : L2.St) (w1 : Wd), Le w w1 → EnvOk w1.G σ Γ →
  ∀ C : It → Hp → Prop, (∀ J w2, Le w1 w2 → TW J xs R (fun w3 => Gx w2 w3) → C J w2.H) → wi σ w1.H C
/-- over a list of one's own at l -/
def IO {α : Type} (wi : TI) (Γ : Env) (w : Wd) (l : Addr) (vs : List V) (xs : List α) (R : α → Slot) : Prop := ∀ (σ : L2.St) (w1 : Wd), Le w w1 → EnvOk w1.G σ Γ →
  ∀ C : It → Hp → Prop, (∀ J w2, Le w1 w2 → TW J xs R (fun w3 => Gx w2 w3 ∧ w3.H l = some (.lst vs)) → C J w2.H) → wi σ w1.H C
section
variable {Γ : Env} {w : Wd} {s t u : Slot} {te ta tb tc tl : TE} {tt tu : TT} {K : PySem.W.Frag} {α β : Type} {R : α → Slot} {S : β → Slot} {xs : List α} {ys : List β}
theorem i_list (h : E tl Γ w (sLst R xs)) : I (iList K tl) Γ w xs R := fun σ w1 l o C c => h σ w1 l o _ fun v w2 l2 p => by
  obtain ⟨a, vs, rfl, ha, r⟩ := p
  have q : ∀ w3, Gx w2 w3 → SqL K w3.H a vs := fun w3 g => SqL.of (w3.sub _ _ (g _ _ ha))
  refine ⟨a, rfl, ⟨vs, q w2 fun _ _ e => e⟩, c _ w2 l2 ⟨fun i w3 hi g => ?_, fun w3 g => ⟨vs, q w3 g, Nat.le_of_eq r.len⟩, fun i w3 v H' x hx g y => ?_⟩⟩
  · exact ⟨vs, vs[i]'(by rw [r.len]; exact hi), q w3 g, List.getElem?_eq_getElem _⟩
  · exact ⟨w3, y.1, .refl, (R x).mono g (r.at_ i v x (y.2 vs (q w3 g)) hx)⟩
theorem i_tup (h : E tl Γ w (sTup R xs)) : I (iTup K tl) Γ w xs R := fun σ w1 l o C c => h σ w1 l o _ fun v w2 l2 p => by
  obtain ⟨a, vs, rfl, ha, r⟩ := p
  have q : ∀ w3, Gx w2 w3 → SqT K w3.H a vs := fun w3 g => SqT.of (w3.sub _ _ (g _ _ ha))
  refine ⟨a, rfl, ⟨vs, q w2 fun _ _ e => e⟩, c _ w2 l2 ⟨fun i w3 hi g => ?_, fun w3 g => ⟨vs, q w3 g, Nat.le_of_eq r.len⟩, fun i w3 v H' x hx g y => ?_⟩⟩
  · exact ⟨vs, vs[i]'(by rw [r.len]; exact hi), q w3 g, List.getElem?_eq_getElem _⟩
  · exact ⟨w3, y.1, .refl, (R x).mono g (r.at_ i v x (y.2 vs (q w3 g)) hx)⟩
theorem io_list {l : Addr} {vs : List V} (hl : w.H l = some (.lst vs)) (r : AllR R w.G vs xs) (h : E tl Γ w (sRef l)) : IO (iList K tl) Γ w l vs xs R := fun σ w1 lw o C c => h σ w1 lw o _ fun v w2 l2 p => by
  cases p
  have h2 : w2.H l = some (.lst vs) := (lw.trans l2).h _ _ List.not_mem_nil hl
  refine ⟨l, rfl, ⟨vs, SqL.of h2⟩, c _ w2 l2 ⟨fun i w3 hi g => ?_, fun w3 g => ⟨vs, SqL.of g.2, Nat.le_of_eq r.len⟩, fun i w3 v H' x hx g y => ?_⟩⟩
  · exact ⟨vs, vs[i]'(by rw [r.len]; exact hi), SqL.of g.2, List.getElem?_eq_getElem _⟩
  · exact ⟨w3, y.1, .refl, (R x).mono (fun a o e => g.1 a o ((lw.trans l2).g a o e)) (r.at_ i v x (y.2 vs (SqL.of g.2)) hx)⟩
theorem i_range1 {n : Nat} (hn : n ≤ 1000000) (h : E ta Γ w (sNat n)) : I (iRng1 (tCons ta tNil)) Γ w (List.range n) (fun i : Nat => sNat i) := fun σ w1 l o C c => h σ w1 l o _ fun v w2 l2 p => by
  refine ⟨(n : Int), by rw [p], by omega, by omega, c _ w2 l2 ⟨fun i w3 hi g => ?_, fun w3 g => ?_, fun i w3 v H' x hx g y => ?_⟩⟩
  · show i < (n : Int).toNat
    rw [List.length_range] at hi
    omega
  · show (n : Int).toNat ≤ (List.range n).length
    rw [List.length_range]
    omega
  · have e : i = x := by
      have z := (List.getElem?_eq_some_iff.mp hx).2
      rw [List.getElem_range] at z
      exact z
    obtain ⟨y1, y2⟩ := y
    refine ⟨w3, y1, .refl, ?_⟩
    show v = _
    rw [y2, e]
    exact congrArg V.int (Int.zero_add _)
theorem zip_at {i : Nat} {p : α × β} (h : (xs.zip ys)[i]? = some p) : xs[i]? = some p.1 ∧ ys[i]? = some p.2 := by
  rw [List.getElem?_zip_eq_some] at h
  exact h
theorem i_zipTT (h1 : E ta Γ w (sTup R xs)) (h2 : E tb Γ w (sTup S ys)) : I (RZ.iZipA K (tCons ta (tCons tb tNil))) Γ w (xs.zip ys) (fun p => sT2 (R p.1) (S p.2)) := fun σ w1 l o C c =>
  h1 σ w1 l o _ fun v w2 l2 p => h2 σ w2 (l.trans l2) (o.up l2) _ fun u w3 l3 p' => by
    obtain ⟨a, vs, rfl, ha, r⟩ := Slot.up l3 p
    obtain ⟨b, us, rfl, hb, r'⟩ := p'
    have q : ∀ w4, Gx w3 w4 → SqT K w4.H a vs := fun w4 g => SqT.of (w4.sub _ _ (g _ _ ha))
    have q' : ∀ w4, Gx w3 w4 → SqT K w4.H b us := fun w4 g => SqT.of (w4.sub _ _ (g _ _ hb))
    refine ⟨a, b, vs, us, rfl, .inr ⟨q w3 fun _ _ e => e, q' w3 fun _ _ e => e, c _ w3 (l2.trans l3) ⟨fun i w4 hi g => ?_, fun w4 g => ⟨vs, us, q w4 g, q' w4 g, ?_⟩, fun i w4 v H' x hx g y => ?_⟩⟩⟩
    · rw [List.length_zip] at hi
      exact ⟨vs, us, vs[i]'(by rw [r.len]; omega), us[i]'(by rw [r'.len]; omega), q w4 g, q' w4 g, List.getElem?_eq_getElem _, List.getElem?_eq_getElem _⟩
    · rw [List.length_zip, r.len, r'.len]
      omega
    · obtain ⟨T, x1, y1, rfl, nT, rfl, f1, f2⟩ := y
      obtain ⟨hx1, hx2⟩ := zip_at hx
      refine ⟨w4.new T (.tup [x1, y1]), rfl, Wd.le_new nT, T, x1, y1, rfl, upd_same, ?_, ?_⟩
      · exact Slot.up (Wd.le_new nT) ((R x.1).mono g (r.at_ i _ _ (f1 vs (q w4 g)) hx1))
      · exact Slot.up (Wd.le_new nT) ((S x.2).mono g (r'.at_ i _ _ (f2 us (q' w4 g)) hx2))
theorem i_zipLL (h1 : E ta Γ w (sLst R xs)) (h2 : E tb Γ w (sLst S ys)) : I (RZ.iZipA K (tCons ta (tCons tb tNil))) Γ w (xs.zip ys) (fun p => sT2 (R p.1) (S p.2)) := fun σ w1 l o C c =>
  h1 σ w1 l o _ fun v w2 l2 p => h2 σ w2 (l.trans l2) (o.up l2) _ fun u w3 l3 p' => by
    obtain ⟨a, vs, rfl, ha, r⟩ := Slot.up l3 p
    obtain ⟨b, us, rfl, hb, r'⟩ := p'
    have q : ∀ w4, Gx w3 w4 → SqL K w4.H a vs := fun w4 g => SqL.of (w4.sub _ _ (g _ _ ha))
    have q' : ∀ w4, Gx w3 w4 → SqL K w4.H b us := fun w4 g => SqL.of (w4.sub _ _ (g _ _ hb))
    refine ⟨a, b, vs, us, rfl, .inl ⟨q w3 fun _ _ e => e, q' w3 fun _ _ e => e, c _ w3 (l2.trans l3) ⟨fun i w4 hi g => ?_, fun w4 g => ⟨vs, us, q w4 g, q' w4 g, ?_⟩, fun i w4 v H' x hx g y => ?_⟩⟩⟩
    · rw [List.length_zip] at hi
      exact ⟨vs, us, vs[i]'(by rw [r.len]; omega), us[i]'(by rw [r'.len]; omega), q w4 g, q' w4 g, List.getElem?_eq_getElem _, List.getElem?_eq_getElem _⟩
    · rw [List.length_zip, r.len, r'.len]
      omega
    · obtain ⟨T, x1, y1, rfl, nT, rfl, f1, f2⟩ := y
      obtain ⟨hx1, hx2⟩ := zip_at hx
      refine ⟨w4.new T (.tup [x1, y1]), rfl, Wd.le_new nT, T, x1, y1, rfl, upd_same, ?_, ?_⟩
      · exact Slot.up (Wd.le_new nT) ((R x.1).mono g (r.at_ i _ _ (f1 vs (q w4 g)) hx1))
      · exact Slot.up (Wd.le_new nT) ((S x.2).mono g (r'.at_ i _ _ (f2 us (q' w4 g)) hx2))
/-- enumerate of a list: of a stable one, of one's own -/
def enumN (xs : List α) : List (Nat × α) := (List.range xs.length).zip xs
theorem enumN_length : (enumN xs).length = xs.length := by
  unfold enumN
  rw [List.length_zip, List.length_range]
  omega
theorem enumN_at {i : Nat} {p : Nat × α} (h : (enumN xs)[i]? = some p) : p.1 = i ∧ xs[i]? = some p.2 := by
  obtain ⟨a, b⟩ := zip_at h
  have z := (List.getElem?_eq_some_iff.mp a).2
  rw [List.getElem_range] at z
  exact ⟨z.symm, b⟩
theorem i_enumL (h : E tl Γ w (sLst R xs)) : I (iEnum K (tCons tl tNil)) Γ w (enumN xs) (fun p => sT2 (sNat p.1) (R p.2)) := fun σ w1 l o C c => h σ w1 l o _ fun v w2 l2 p => by
  obtain ⟨a, vs, rfl, ha, r⟩ := p
  have q : ∀ w3, Gx w2 w3 → SqL K w3.H a vs := fun w3 g => SqL.of (w3.sub _ _ (g _ _ ha))
  refine ⟨a, vs, rfl, q w2 fun _ _ e => e, c _ w2 l2 ⟨fun i w3 hi g => ?_, fun w3 g => ⟨vs, q w3 g, ?_⟩, fun i w3 v H' x hx g y => ?_⟩⟩
  · rw [enumN_length] at hi
    exact ⟨vs, vs[i]'(by rw [r.len]; exact hi), q w3 g, List.getElem?_eq_getElem _⟩
  · rw [enumN_length, r.len]
    exact Nat.le_refl _
  · obtain ⟨T, x1, rfl, nT, rfl, f1⟩ := y
    obtain ⟨e1, e2⟩ := enumN_at hx
    refine ⟨w3.new T (.tup [.int (i : Nat), x1]), rfl, Wd.le_new nT, T, _, x1, rfl, upd_same, ?_, ?_⟩
    · rw [e1]
      rfl
    · exact Slot.up (Wd.le_new nT) ((R x.2).mono g (r.at_ i _ _ (f1 vs (q w3 g)) e2))
theorem io_enumL {l : Addr} {vs : List V} (hl : w.H l = some (.lst vs)) (r : AllR R w.G vs xs) (h : E tl Γ w (sRef l)) : IO (iEnum K (tCons tl tNil)) Γ w l vs (enumN xs) (fun p => sT2 (sNat p.1) (R p.2)) :=
  fun σ w1 lw o C c => h σ w1 lw o _ fun v w2 l2 p => by
  cases p
  have h2 : w2.H l = some (.lst vs) := (lw.trans l2).h _ _ List.not_mem_nil hl
  refine ⟨l, vs, rfl, SqL.of h2, c _ w2 l2 ⟨fun i w3 hi g => ?_, fun w3 g => ⟨vs, SqL.of g.2, ?_⟩, fun i w3 v H' x hx g y => ?_⟩⟩
  · rw [enumN_length] at hi
    exact ⟨vs, vs[i]'(by rw [r.len]; exact hi), SqL.of g.2, List.getElem?_eq_getElem _⟩
  · rw [enumN_length, r.len]
    exact Nat.le_refl _
  · obtain ⟨T, x1, rfl, nT, rfl, f1⟩ := y
    obtain ⟨e1, e2⟩ := enumN_at hx
    refine ⟨w3.new T (.tup [.int (i : Nat), x1]), rfl, Wd.le_new nT, T, _, x1, rfl, upd_same, ?_, ?_⟩
    · rw [e1]
      rfl
    · exact Slot.up (Wd.le_new nT) ((R x.2).mono (fun a o e => g.1 a o ((lw.trans l2).g a o e)) (r.at_ i _ _ (f1 vs (SqL.of g.2)) e2))

/-! ### targets -/
def B (g : TG) (s : Slot) (js : List Nat) (f : Env → Env) : Prop := ∀ (v : V) (σ : L2.St) (w : Wd) (Γ : Env), s.P w.G v → EnvOk w.G σ Γ → ∀ Q : L2.St → Hp → Prop,
  (∀ σ' : L2.St, EnvOk w.G σ' (f Γ) → (∀ i, i ∉ js → σ'[i]? = σ[i]?) → σ'.length = σ.length → Q σ' w.H) → g v σ w.H Q
theorem b_name {i : Nat} : B (gName i) s [i] (fun Γ => Γ.set i (some s)) := fun v σ w Γ p o Q q =>
  q _ (o.set p) (fun j hj => List.getElem?_set_ne (fun e => hj (by rw [e]; exact List.mem_singleton.mpr rfl))) (List.length_set ..)
theorem b_t2 {g1 g2 : TG} {js1 js2 : List Nat} {f1 f2 : Env → Env} (h1 : B g1 s js1 f1) (h2 : B g2 t js2 f2) : B (gTup K 2 (gCons g1 (gCons g2 gNil))) (sT2 s t) (js1 ++ js2) (fun Γ => f2 (f1 Γ)) := fun v σ w Γ p o Q q => by
  obtain ⟨a, x, y, rfl, ha, px, py⟩ := p
  refine ⟨a, [x, y], rfl, SqT.of (w.sub _ _ ha), rfl, x, [y], rfl, h1 x σ w Γ px o _ fun σ1 o1 k1 l1 => ⟨y, [], rfl, h2 y σ1 w _ py o1 _ fun σ2 o2 k2 l2 => ⟨rfl, q σ2 o2 (fun i hi => ?_) (l2.trans l1)⟩⟩⟩
  rw [List.mem_append] at hi
  exact (k2 i fun z => hi (.inr z)).trans (k1 i fun z => hi (.inl z))
theorem b_t3 {g1 g2 g3 : TG} {js1 js2 js3 : List Nat} {f1 f2 f3 : Env → Env} (h1 : B g1 s js1 f1) (h2 : B g2 t js2 f2) (h3 : B g3 u js3 f3) :
    B (gTup K 3 (gCons g1 (gCons g2 (gCons g3 gNil)))) (sT3 s t u) (js1 ++ (js2 ++ js3)) (fun Γ => f3 (f2 (f1 Γ))) := fun v σ w Γ p o Q q => by
  obtain ⟨a, x, y, z, rfl, ha, px, py, pz⟩ := p
  refine ⟨a, [x, y, z], rfl, SqT.of (w.sub _ _ ha), rfl, x, [y, z], rfl, h1 x σ w Γ px o _ fun σ1 o1 k1 l1 => ⟨y, [z], rfl, h2 y σ1 w _ py o1 _ fun σ2 o2 k2 l2 => ⟨z, [], rfl, h3 z σ2 w _ pz o2 _ fun σ3 o3 k3 l3 => ⟨rfl, q σ3 o3 (fun i hi => ?_) (l3.trans (l2.trans l1))⟩⟩⟩⟩
  rw [List.mem_append, List.mem_append] at hi
  exact (k3 i fun z => hi (.inr (.inr z))).trans ((k2 i fun z => hi (.inr (.inl z))).trans (k1 i fun z => hi (.inl z)))
theorem B.imp {g : TG} {js : List Nat} {f : Env → Env} (h : B g s js f) (k : ∀ G v, t.P G v → s.P G v) : B g t js f := fun v σ w Γ p o Q q => h v σ w Γ (k _ _ p) o Q q

/-! ### statements -/
variable {D : Ends} {σ : L2.St} {ts ts1 ts2 tz : TS}
theorem seq (h : ts1 { D with nx := ts2 D } σ w.H) : tSeq ts1 ts2 D σ w.H := h
theorem s_asg {g : TG} {js : List Nat} {f : Env → Env} (o : EnvOk w.G σ Γ) (hg : B g s js f) (h : E te Γ w s) (k : ∀ (σ' : L2.St) (w2 : Wd), Le w w2 → EnvOk w2.G σ' (f Γ) → D.nx σ' w2.H) : tAsg te g D σ w.H :=
  h σ w .refl o _ fun v w2 l p => hg v σ w2 Γ p (o.up l) _ fun σ' o' _ _ => k σ' w2 l o'
theorem s_set {i : Nat} (o : EnvOk w.G σ Γ) (h : E te Γ w s) (k : ∀ (σ' : L2.St) (w2 : Wd), Le w w2 → EnvOk w2.G σ' (Γ.set i (some s)) → D.nx σ' w2.H) : tAsg te (gName i) D σ w.H := s_asg o b_name h k
theorem s_setL {i : Nat} (o : EnvOk w.G σ Γ) (h : EL te Γ w R xs)
    (k : ∀ (p : Addr) (vs : List V) (σ' : L2.St) (w2 : Wd), Le w w2 → w.H p = none → w2.G p = none → w2.H p = some (.lst vs) → AllR R w2.G vs xs → EnvOk w2.G σ' (Γ.set i (some (sRef p))) → D.nx σ' w2.H) : tAsg te (gName i) D σ w.H :=
  h σ w .refl o _ fun p vs w2 l n1 n2 hp r => k p vs _ w2 l n1 n2 hp r ((o.up l).set rfl)
theorem s_if {b : Bool} (o : EnvOk w.G σ Γ) (h : ET tt Γ w b) (h1 : b = true → ∀ w2 : Wd, Le w w2 → EnvOk w2.G σ Γ → ts1 D σ w2.H) (h2 : b = false → ∀ w2 : Wd, Le w w2 → EnvOk w2.G σ Γ → ts2 D σ w2.H) : tIfS tt ts1 ts2 D σ w.H :=
  h σ w .refl o _ fun w2 l => by
    cases b with
    | true => exact iteT (h1 rfl w2 l (o.up l))
    | false => exact iteF (h2 rfl w2 l (o.up l))
/-- an if without else ahead of more -/
theorem s_ifN {b : Bool} (o : EnvOk w.G σ Γ) (h : ET tt Γ w b) (h1 : b = true → ∀ w2 : Wd, Le w w2 → EnvOk w2.G σ Γ → ts1 { D with nx := ts2 D } σ w2.H) (h2 : b = false → ∀ w2 : Wd, Le w w2 → EnvOk w2.G σ Γ → ts2 D σ w2.H) : tSeq (tIfS tt ts1 tNext) ts2 D σ w.H :=
  seq (s_if o h h1 h2)
/-- an if that is not taken -/
theorem s_skip {b : Bool} (o : EnvOk w.G σ Γ) (h : ET tt Γ w b) (e : b = false) (h2 : ∀ w2 : Wd, Le w w2 → EnvOk w2.G σ Γ → ts2 D σ w2.H) : tSeq (tIfS tt ts1 tNext) ts2 D σ w.H :=
  seq (s_if o h (fun q => by rw [e] at q; cases q) fun _ => h2)
theorem s_ret (o : EnvOk w.G σ Γ) (h : E te Γ w s) (k : ∀ (v : V) (w2 : Wd), Le w w2 → s.P w2.G v → D.rt v w2.H) : tRet te D σ w.H := h σ w .refl o _ k
theorem s_next (h : D.nx σ w.H) : tNext D σ w.H := h
theorem s_drop (o : EnvOk w.G σ Γ) (h : E te Γ w s) (k : ∀ w2 : Wd, Le w w2 → EnvOk w2.G σ Γ → D.nx σ w2.H) : tDrop te D σ w.H := h σ w .refl o _ fun v w2 l _ => k w2 l (o.up l)
/-- a list of one's own: xs stands at l, which w0 does not know -/
structure Own {α : Type} (w0 : Wd) (l : Addr) (R : α → Slot) (xs : List α) (w : Wd) : Prop where
  le : Le w0 w
  fr : w0.H l = none
  g : w.G l = none
  at_ : ∃ vs, w.H l = some (.lst vs) ∧ AllR R w.G vs xs
theorem Own.up {w0 w1 w2 : Wd} {l : Addr} (h : Own w0 l R xs w1) (k : Le w1 w2) : Own w0 l R xs w2 := by
  obtain ⟨vs, a, r⟩ := h.at_
  exact ⟨h.le.trans k, h.fr, k.own l _ List.not_mem_nil a h.g, vs, k.h l _ List.not_mem_nil a, r.mono k.g⟩
theorem Own.upB {w0 w1 w2 : Wd} {l : Addr} {Bs : List Addr} (h : Own w0 l R xs w1) (k : LeB Bs w1 w2) (hB : ∀ b ∈ Bs, w0.H b = none) (hl : l ∉ Bs) : Own w0 l R xs w2 := by
  obtain ⟨vs, a, r⟩ := h.at_
  exact ⟨h.le.thenB k hB, h.fr, k.own l _ hl a h.g, vs, k.h l _ hl a, r.mono k.g⟩
theorem Own.mk0 {w0 w1 w2 : Wd} {l : Addr} {vs : List V} (l0 : Le w0 w1) (k : Le w1 w2) (n1 : w1.H l = none) (n2 : w2.G l = none) (hp : w2.H l = some (.lst vs)) (r : AllR R w2.G vs xs) : Own w0 l R xs w2 := ⟨l0.trans k, l0.free n1, n2, vs, hp, r⟩
/-- l.append(e) -/
theorem s_app {w0 : Wd} {l : Addr} {x : α} (o : EnvOk w.G σ Γ) (ow : Own w0 l R xs w) (hz : xs.length ≤ 1000000) (ha : E ta Γ w (sRef l)) (h : E te Γ w (R x))
    (k : ∀ w2 : Wd, LeB [l] w w2 → Own w0 l R (xs ++ [x]) w2 → EnvOk w2.G σ Γ → D.nx σ w2.H) : tDrop (tBM K "list" rAppend ta (tCons te tNil)) D σ w.H :=
  ha σ w .refl o _ fun v w2 l2 p => by
    cases p
    obtain ⟨vs, a, r⟩ := (ow.up l2).at_
    refine ⟨Or.inl ⟨rfl, _, SqL.of a⟩, h σ w2 l2 (o.up l2) _ fun z w3 l3 pz => ?_⟩
    have ow3 := ow.up (l2.trans l3)
    obtain ⟨vs3, a3, r3⟩ := ow3.at_
    refine ⟨l, vs3, z, rfl, rfl, a3, Nat.lt_of_le_of_lt (by rw [r3.len]; exact hz) (by decide), ?_⟩
    have lb : LeB [l] w3 (w3.put l (.lst (vs3 ++ [z])) ow3.g) := Wd.leB_put (List.mem_singleton.mpr rfl)
    exact k (w3.put l (.lst (vs3 ++ [z])) ow3.g) ((LeB.up (l2.trans l3)).trans lb)
      ⟨ow3.le.put ow.fr, ow.fr, ow3.g, vs3 ++ [z], upd_same, r3.snoc pz⟩ (((o.up l2).up l3).up lb)
/-- l[i] = e -/
theorem s_put {w0 : Wd} {l : Addr} {x : α} {i : Nat} (o : EnvOk w.G σ Γ) (ow : Own w0 l R xs w) (hi : i < xs.length) (h : E te Γ w (R x)) (ha : E ta Γ w (sRef l)) (hb : E tb Γ w (sNat i))
    (k : ∀ w2 : Wd, LeB [l] w w2 → Own w0 l R (xs.set i x) w2 → EnvOk w2.G σ Γ → D.nx σ w2.H) : tAsg te (gSub ta tb rSetL) D σ w.H :=
  h σ w .refl o _ fun z w1 l1 pz => ha σ w1 l1 (o.up l1) _ fun v w2 l2 p => hb σ w2 (l1.trans l2) ((o.up l1).up l2) _ fun y w3 l3 p' => by
    cases p
    cases p'
    have ow3 := ow.up (l1.trans (l2.trans l3))
    obtain ⟨vs3, a3, r3⟩ := ow3.at_
    have hi3 : i < vs3.length := by rw [r3.len]; exact hi
    refine ⟨l, vs3, _, i, rfl, rfl, a3, ?_, ?_⟩
    · unfold ixN
      rw [if_pos (by omega), if_pos (by omega)]
      rfl
    · have lb : LeB [l] w3 (w3.put l (.lst (vs3.set i z)) ow3.g) := Wd.leB_put (List.mem_singleton.mpr rfl)
      exact k (w3.put l (.lst (vs3.set i z)) ow3.g) ((LeB.up (l1.trans (l2.trans l3))).trans lb)
        ⟨ow3.le.put ow.fr, ow.fr, ow3.g, vs3.set i z, upd_same, r3.set i (show (R x).P w3.G z from Slot.up (l2.trans l3) pz)⟩ ((o.up (l1.trans (l2.trans l3))).up lb)
theorem e_lenOw {w0 : Wd} {l : Addr} (ow : Own w0 l R xs w) (ha : E ta Γ w (sRef l)) : E (tCB (rLenS K) (tCons ta tNil)) Γ w (sNat xs.length) := by
  obtain ⟨vs, a, r⟩ := ow.at_
  rw [← r.len]
  exact e_lenO a ha
theorem e_ixOw {w0 : Wd} {l : Addr} {i : Nat} {x : α} (ow : Own w0 l R xs w) (h : xs[i]? = some x) (ha : E ta Γ w (sRef l)) (hb : E tb Γ w (sNat i)) : E (tOp (rIxL K) ta tb) Γ w (R x) := by
  obtain ⟨vs, a, r⟩ := ow.at_
  exact e_ixO a r h ha hb
theorem e_tupOw {w0 : Wd} {l : Addr} (ow : Own w0 l R xs w) (ha : E ta Γ w (sRef l)) : E (tCB (rTupOf K) (tCons ta tNil)) Γ w (sTup R xs) := by
  obtain ⟨vs, a, r⟩ := ow.at_
  exact e_tupO a r ha
theorem io_ow {w0 : Wd} {l : Addr} (ow : Own w0 l R xs w) (h : E tl Γ w (sRef l)) : ∃ vs, w.H l = some (.lst vs) ∧ IO (iList K tl) Γ w l vs xs R := by
  obtain ⟨vs, a, r⟩ := ow.at_
  exact ⟨vs, a, io_list a r h⟩
/-- return l, a list of one's own: it is stable behind -/
theorem s_retOw {w0 : Wd} {l : Addr} (o : EnvOk w.G σ Γ) (ow : Own w0 l R xs w) (h : E te Γ w (sRef l)) (k : ∀ (v : V) (w2 : Wd), Le w0 w2 → (sLst R xs).P w2.G v → D.rt v w2.H) : tRet te D σ w.H :=
  h σ w .refl o _ fun v w2 l2 p => by
    cases p
    have ow2 := ow.up l2
    obtain ⟨vs, a, r⟩ := ow2.at_
    exact k (.ref l) (w2.frz l (.lst vs) a) (ow2.le.frz ow2.g ow2.fr) ⟨l, vs, rfl, upd_same, r.mono fun b u e => keepU (neN e ow2.g) e⟩
/-- for: Γl i the slots ahead of turn i, P i what holds besides -/
theorem s_for {wi : TI} {g : TG} {js : List Nat} {f : α → Env → Env} (o : EnvOk w.G σ Γ) (h : I wi Γ w xs R) (hg : ∀ x, B g (R x) js (f x)) (Γl : Nat → Env) (P : Nat → Wd → Prop) (hm : ∀ i w1 w2, P i w1 → Le w1 w2 → P i w2)
    (h0 : ∀ w1 : Wd, Le w w1 → EnvOk w1.G σ Γ → EnvOk w1.G σ (Γl 0) ∧ P 0 w1)
    (hb : ∀ (i : Nat) (x : α) (σ' : L2.St) (w1 : Wd), xs[i]? = some x → EnvOk w1.G σ' (f x (Γl i)) → P i w1 → ∀ N : L2.St → Hp → Prop,
      (∀ (σ2 : L2.St) (w2 : Wd) (Γ2 : Env), EnvOk w2.G σ2 Γ2 → (EnvOk w2.G σ2 Γ2 → EnvOk w2.G σ2 (Γl (i + 1))) → P (i + 1) w2 → Gx w1 w2 → N σ2 w2.H) → ts { D with nx := N, ct := N, bk := D.nx } σ' w1.H)
    (hd : ∀ (σ' : L2.St) (w1 : Wd), EnvOk w1.G σ' (Γl xs.length) → P xs.length w1 → D.nx σ' w1.H) : tFor wi g ts D σ w.H :=
  h σ w .refl o _ fun J w1 l1 T => by
    obtain ⟨o0, p0⟩ := h0 w1 l1 (o.up l1)
    refine ⟨fun i m σ' H' => ∃ w' : Wd, H' = w'.H ∧ m = xs.length - i ∧ i ≤ xs.length ∧ EnvOk w'.G σ' (Γl i) ∧ P i w' ∧ Gx w1 w', ⟨_, w1, rfl, rfl, Nat.zero_le _, o0, p0, fun _ _ e => e⟩, ?_⟩
    rintro i m σ' H' ⟨w', rfl, rfl, hi, o', p', g'⟩
    by_cases hlt : i < xs.length
    · refine .inr ⟨T.go i w' hlt g', fun σ2 H2 => ∃ w2 : Wd, H2 = w2.H ∧ EnvOk w2.G σ2 (Γl (i + 1)) ∧ P (i + 1) w2 ∧ Gx w1 w2, ?_, fun v H2 y => ?_⟩
      · rintro σ2 H2 ⟨w2, rfl, o2, p2, g2⟩
        exact ⟨xs.length - (i + 1), by omega, w2, rfl, rfl, hlt, o2, p2, g2⟩
      · obtain ⟨w2, rfl, l2, pv⟩ := T.yld i w' v H2 xs[i] (List.getElem?_eq_getElem hlt) g' y
        refine hg xs[i] v σ' w2 (Γl i) pv (o'.up l2) _ fun σ2 o2 _ _ => ?_
        exact hb i xs[i] σ2 w2 (List.getElem?_eq_getElem hlt) o2 (hm i _ _ p' l2) _ fun σ3 w3 Γ3 o3 k3 p3 g3 => ⟨w3, rfl, k3 o3, p3, fun a u e => g3 a u (l2.g a u (g' a u e))⟩
    · have e : i = xs.length := by omega
      subst e
      exact .inl ⟨T.stop w' g', hd σ' w' o' p'⟩
/-- the same over a list of one's own, which stays as it is meanwhile -/
theorem s_forO {wi : TI} {g : TG} {js : List Nat} {f : α → Env → Env} {l : Addr} {vs : List V} (o : EnvOk w.G σ Γ) (h : IO wi Γ w l vs xs R) (hl : w.H l = some (.lst vs)) (hg : ∀ x, B g (R x) js (f x)) (Γl : Nat → Env) (P : Nat → Wd → Prop) (hm : ∀ i w1 w2, P i w1 → Le w1 w2 → P i w2)
    (h0 : ∀ w1 : Wd, Le w w1 → EnvOk w1.G σ Γ → EnvOk w1.G σ (Γl 0) ∧ P 0 w1)
    (hb : ∀ (i : Nat) (x : α) (σ' : L2.St) (w1 : Wd), xs[i]? = some x → EnvOk w1.G σ' (f x (Γl i)) → P i w1 → w1.H l = some (.lst vs) → ∀ N : L2.St → Hp → Prop,
      (∀ (σ2 : L2.St) (w2 : Wd) (Γ2 : Env), EnvOk w2.G σ2 Γ2 → (EnvOk w2.G σ2 Γ2 → EnvOk w2.G σ2 (Γl (i + 1))) → P (i + 1) w2 → Gx w1 w2 → w2.H l = some (.lst vs) → N σ2 w2.H) → ts { D with nx := N, ct := N, bk := D.nx } σ' w1.H)
    (hd : ∀ (σ' : L2.St) (w1 : Wd), EnvOk w1.G σ' (Γl xs.length) → P xs.length w1 → w1.H l = some (.lst vs) → D.nx σ' w1.H) : tFor wi g ts D σ w.H :=
  h σ w .refl o _ fun J w1 l1 T => by
    obtain ⟨o0, p0⟩ := h0 w1 l1 (o.up l1)
    refine ⟨fun i m σ' H' => ∃ w' : Wd, H' = w'.H ∧ m = xs.length - i ∧ i ≤ xs.length ∧ EnvOk w'.G σ' (Γl i) ∧ P i w' ∧ Gx w1 w' ∧ w'.H l = some (.lst vs), ⟨_, w1, rfl, rfl, Nat.zero_le _, o0, p0, fun _ _ e => e, l1.h _ _ List.not_mem_nil hl⟩, ?_⟩
    rintro i m σ' H' ⟨w', rfl, rfl, hi, o', p', g', hl'⟩
    by_cases hlt : i < xs.length
    · refine .inr ⟨T.go i w' hlt ⟨g', hl'⟩, fun σ2 H2 => ∃ w2 : Wd, H2 = w2.H ∧ EnvOk w2.G σ2 (Γl (i + 1)) ∧ P (i + 1) w2 ∧ Gx w1 w2 ∧ w2.H l = some (.lst vs), ?_, fun v H2 y => ?_⟩
      · rintro σ2 H2 ⟨w2, rfl, o2, p2, g2, hl2⟩
        exact ⟨xs.length - (i + 1), by omega, w2, rfl, rfl, hlt, o2, p2, g2, hl2⟩
      · obtain ⟨w2, rfl, l2, pv⟩ := T.yld i w' v H2 xs[i] (List.getElem?_eq_getElem hlt) ⟨g', hl'⟩ y
        refine hg xs[i] v σ' w2 (Γl i) pv (o'.up l2) _ fun σ2 o2 _ _ => ?_
        exact hb i xs[i] σ2 w2 (List.getElem?_eq_getElem hlt) o2 (hm i _ _ p' l2) (l2.h _ _ List.not_mem_nil hl') _ fun σ3 w3 Γ3 o3 k3 p3 g3 hl3 => ⟨w3, rfl, k3 o3, p3, fun a u e => g3 a u (l2.g a u (g' a u e)), hl3⟩
    · have e : i = xs.length := by omega
      subst e
      exact .inl ⟨T.stop w' ⟨g', hl'⟩, hd σ' w' o' p' hl'⟩
/-! ### comprehensions -/
theorem wipe_len (σ : L2.St) (vs : List Nat) : (wipe σ vs).length = σ.length := wipe_length σ vs
theorem wipe_at {σ : L2.St} : ∀ {vs : List Nat} {i : Nat}, (wipe σ vs)[i]? = if i ∈ vs ∧ i < σ.length then some none else σ[i]?
  | [], i => by simp [wipe]
  | v :: vs, i => by
    have ih := wipe_at (σ := σ) (vs := vs) (i := i)
    unfold wipe
    by_cases e : v = i
    · subst e
      by_cases hi : v < σ.length
      · rw [List.getElem?_set_self (by rw [wipe_length]; exact hi), if_pos ⟨List.mem_cons_self, hi⟩]
      · rw [List.getElem?_eq_none (by rw [List.length_set, wipe_length]; omega), if_neg (fun h => hi h.2), List.getElem?_eq_none (by omega)]
    · rw [List.getElem?_set_ne e, ih]
      by_cases hm : i ∈ vs
      · by_cases hi : i < σ.length
        · rw [if_pos ⟨hm, hi⟩, if_pos ⟨List.mem_cons_of_mem _ hm, hi⟩]
        · rw [if_neg (fun h => hi h.2), if_neg (fun h => hi h.2)]
      · rw [if_neg (fun h => hm h.1), if_neg (fun h => (List.mem_cons.mp h.1).elim (fun z => e z.symm) hm)]
theorem wipe_eq {σ1 σ2 : L2.St} {vs : List Nat} (hl : σ1.length = σ2.length) (h : ∀ i, i ∉ vs → σ1[i]? = σ2[i]?) : wipe σ1 vs = wipe σ2 vs := by
  refine List.ext_getElem? fun i => ?_
  rw [wipe_at, wipe_at, hl]
  by_cases hi : i ∈ vs ∧ i < σ2.length
  · rw [if_pos hi, if_pos hi]
  · rw [if_neg hi, if_neg hi]
    by_cases hm : i ∈ vs
    · have : σ2.length ≤ i := Nat.le_of_not_lt fun z => hi ⟨hm, z⟩
      rw [List.getElem?_eq_none (by omega), List.getElem?_eq_none this]
    · exact h i hm
theorem wipe_wipe {σ : L2.St} {vs : List Nat} : wipe (wipe σ vs) vs = wipe σ vs := wipe_eq (wipe_length _ _) fun i hi => by
  rw [wipe_at, if_neg (fun h => hi h.1)]
theorem drops_at : ∀ {js : List Nat} {Γ : Env} {i : Nat} {s : Slot}, (drops Γ js)[i]? = some (some s) → Γ[i]? = some (some s) ∧ i ∉ js
  | [], Γ, i, s, h => ⟨h, List.not_mem_nil⟩
  | j :: r, Γ, i, s, h => by
    obtain ⟨a, b⟩ := drops_at (js := r) (Γ := Γ.set j none) h
    by_cases e : j = i
    · subst e
      by_cases hi : j < Γ.length
      · rw [List.getElem?_set_self hi] at a
        cases Option.some.inj a
      · rw [List.getElem?_eq_none (by rw [List.length_set]; omega)] at a
        cases a
    · rw [List.getElem?_set_ne e] at a
      exact ⟨a, fun m => (List.mem_cons.mp m).elim (fun z => e z.symm) b⟩
theorem drops_length : ∀ {js : List Nat} {Γ : Env}, (drops Γ js).length = Γ.length
  | [], Γ => rfl
  | j :: r, Γ => by
    show (drops (Γ.set j none) r).length = _
    rw [drops_length, List.length_set]
theorem EnvOk.wiped {G : Hp} (o : EnvOk G σ Γ) (vs : List Nat) : EnvOk G (wipe σ vs) (R40.drops Γ vs) := by
  refine ⟨by rw [wipe_length, drops_length, o.len], fun i s h => ?_⟩
  obtain ⟨a, b⟩ := drops_at h
  obtain ⟨v, c, d⟩ := o.at_ i s a
  exact ⟨v, by rw [wipe_at, if_neg (fun z => b z.1)]; exact c, d⟩
theorem wipe_bind {σ2 : L2.St} {vs js : List Nat} (k : ∀ i, i ∉ js → σ2[i]? = (wipe σ vs)[i]?) (hl : σ2.length = (wipe σ vs).length) (hjs : ∀ j ∈ js, j ∈ vs) : wipe σ2 vs = wipe σ vs :=
  (wipe_eq hl fun i hi => k i fun z => hi (hjs i z)).trans wipe_wipe
theorem el_lc {wi : TI} {g : TG} {own js : List Nat} {f : α → Env → Env} {γ : Type} {Z : γ → Slot} (p : α → Bool) (val : α → γ) (h : I wi Γ w xs R) (hz : xs.length ≤ 1000000) (hg : ∀ x, B g (R x) js (f x)) (hjs : ∀ j ∈ js, j ∈ own)
    (ht : ∀ x ∈ xs, ET tt (f x (drops Γ own)) w (p x)) (he : ∀ x ∈ xs, p x = true → E te (f x (drops Γ own)) w (Z (val x))) : EL (tLc wi g tt te own) Γ w Z ((xs.filter p).map val) := fun σ w1 l o Q q =>
  h σ w1 l o _ fun J w2 l2 T Dd nD => by
    have gD : w2.G Dd = none := w2.gfree nD
    have st : Own w1 Dd Z (([] : List α).map val) (w2.put Dd (.lst []) gD) := ⟨l2.trans (Wd.le_put nD), l2.free nD, gD, [], upd_same, .nil⟩
    refine ⟨fun i m H' => ∃ w' : Wd, H' = w'.H ∧ m = xs.length - i ∧ i ≤ xs.length ∧ Own w1 Dd Z (((xs.take i).filter p).map val) w' ∧ Gx w2 w', ⟨_, w2.put Dd (.lst []) gD, rfl, rfl, Nat.zero_le _, st, fun _ _ e => e⟩, ?_⟩
    rintro i m H' ⟨w', rfl, rfl, hi, ow, g'⟩
    by_cases hlt : i < xs.length
    · have hx : xs[i]? = some xs[i] := List.getElem?_eq_getElem hlt
      have hmem : xs[i] ∈ xs := List.getElem_mem hlt
      have etk : xs.take (i + 1) = xs.take i ++ [xs[i]] := by rw [List.take_add_one, hx]; rfl
      refine .inr ⟨T.go i w' hlt g', fun H2 => ∃ w3 : Wd, H2 = w3.H ∧ Own w1 Dd Z (((xs.take (i + 1)).filter p).map val) w3 ∧ Gx w2 w3, ?_, fun v H2 y => ?_⟩
      · rintro H2 ⟨w3, rfl, ow3, g3⟩
        exact ⟨xs.length - (i + 1), by omega, w3, rfl, rfl, hlt, ow3, g3⟩
      · obtain ⟨w3, rfl, l3, pv⟩ := T.yld i w' v H2 xs[i] hx g' y
        have ow3 := ow.up l3
        have o3 : EnvOk w3.G (wipe σ own) (drops Γ own) := (o.up ow3.le).wiped own
        refine hg xs[i] v (wipe σ own) w3 _ pv o3 _ fun σ2 o2 k2 len2 => ⟨wipe_bind k2 len2 hjs, ?_⟩
        refine ht xs[i] hmem σ2 w3 (l.trans ow3.le) o2 _ fun w4 l4 => ?_
        have ow4 := ow3.up l4
        cases e : p xs[i] with
        | false =>
          refine iteF ⟨w4, rfl, ?_, fun a u z => l4.g a u (l3.g a u (g' a u z))⟩
          rw [etk, List.filter_append, List.map_append, List.filter_cons, if_neg (by rw [e]; decide)]
          show Own w1 Dd Z (_ ++ []) w4
          rw [List.append_nil]
          exact ow4
        | true =>
          refine iteT (he xs[i] hmem e σ2 w4 (l.trans ow4.le) (o2.up l4) _ fun z w5 l5 pz => ?_)
          have ow5 := ow4.up l5
          obtain ⟨vs, a, r⟩ := ow5.at_
          refine ⟨vs, a, Nat.lt_of_le_of_lt (?_ : vs.length ≤ 1000000) (by decide), w5.put Dd (.lst (vs ++ [z])) ow5.g, rfl, ⟨ow5.le.put ow5.fr, ow5.fr, ow5.g, vs ++ [z], upd_same, ?_⟩, fun b u q => l5.g b u (l4.g b u (l3.g b u (g' b u q)))⟩
          · rw [r.len, List.length_map]
            have q1 := List.length_filter_le p (xs.take i)
            rw [List.length_take] at q1
            omega
          · rw [etk, List.filter_append, List.map_append, List.filter_cons, if_pos e]
            exact r.snoc pz
    · have e : i = xs.length := by omega
      subst e
      rw [List.take_length] at ow
      obtain ⟨vs, a, r⟩ := ow.at_
      exact .inl ⟨T.stop w' g', q Dd vs w' ow.le ow.fr ow.g a r⟩
theorem t_yes : ET tYes Γ w true := fun σ w1 l o Q q => q w1 .refl
/-- no if -/
theorem el_lcM {wi : TI} {g : TG} {own js : List Nat} {f : α → Env → Env} {γ : Type} {Z : γ → Slot} (val : α → γ) (h : I wi Γ w xs R) (hz : xs.length ≤ 1000000) (hg : ∀ x, B g (R x) js (f x)) (hjs : ∀ j ∈ js, j ∈ own)
    (he : ∀ x ∈ xs, E te (f x (drops Γ own)) w (Z (val x))) : EL (tLc wi g tYes te own) Γ w Z (xs.map val) := by
  have z := el_lc (Z := Z) (te := te) (tt := tYes) (fun _ => true) val h hz hg hjs (fun _ _ => t_yes) (fun x hx _ => he x hx)
  rw [List.filter_eq_self.mpr (fun _ _ => rfl)] at z
  exact z
/-! ### defs and calls -/
def spP {ι : Type} (pre : ι → Prop) (as : ι → List Slot) (Φ : ι → Slot) : Sp := fun vs H Q _ => ∃ (x : ι) (w : Wd), w.H = H ∧ pre x ∧ Args w.G vs (as x) ∧ ∀ v w2, Le w w2 → (Φ x).P w2.G v → Q v w2.H
theorem e_call {ι : Type} {pre : ι → Prop} {as : ι → List Slot} {Φ : ι → Slot} {X : XK} {ta : TA} (x : ι) (hp : pre x) (h : EA ta Γ w (as x)) : E (tCall (spP pre as Φ) [] X ta) Γ w (Φ x) := fun σ w1 l o Q q =>
  h σ w1 l o _ fun vs w2 l2 a => ⟨x, w2, rfl, hp, by rw [List.append_nil]; exact a, fun v w3 l3 p => q v w3 (l2.trans l3) p⟩
theorem args_start {G : Hp} {N : List Str} {vs : List V} {ss : List Slot} (h : Args G vs ss) : EnvOk G (L2.start N vs) (ss.map some ++ List.replicate (N.length - ss.length) none) := by
  have hl := h.len
  refine ⟨by unfold L2.start; simp [hl], fun i s e => ?_⟩
  have key : ∀ {vs : List V} {ss : List Slot}, Args G vs ss → ∀ (i : Nat) (s : Slot), ss[i]? = some s → ∃ v, vs[i]? = some v ∧ s.P G v := by
    intro vs ss h
    induction h with
    | nil => intro i s e; simp at e
    | cons a _ ih =>
      intro i s e
      cases i with
      | zero =>
        cases e
        exact ⟨_, rfl, a⟩
      | succ n => exact ih n s e
  by_cases hi : i < ss.length
  · rw [List.getElem?_append_left (by rw [List.length_map]; exact hi), List.getElem?_map] at e
    cases q : ss[i]? with
    | none =>
      rw [q] at e
      cases e
    | some s' =>
      rw [q] at e
      have es : s' = s := Option.some.inj (Option.some.inj e)
      subst es
      obtain ⟨v, a, b⟩ := key h i s' q
      refine ⟨v, ?_, b⟩
      unfold L2.start
      rw [List.getElem?_append_left (by rw [List.length_map, hl]; exact hi), List.getElem?_map, a]
      rfl
  · rw [List.getElem?_append_right (by rw [List.length_map]; omega), List.getElem?_replicate] at e
    split at e
    · cases Option.some.inj e
    · cases e
theorem okP {ι : Type} {pre : ι → Prop} {as : ι → List Slot} {Φ : ι → Slot} {P : Program} {w : World} {K : PySem.W.Frag} {mg : Str → Option Value} {base : Heap} {x qual : Str} {params : Arguments} {body : List Stmt} {scope : Scope} {f : Addr} {fd : FuncData} {N ps : List Str} {k : Nat}
    (F : FunD K x qual params body scope [] [] f fd) (S : FnScope N ps scope) (hl : ∀ x, (as x).length = ps.length)
    (hb : ∀ (cdv : Value) (A : Around) (outer : List PySem.Env) (s : Shared) (H : Hp) (E : XK), Room k (A.deeper (envOfC qual scope s.heap.objs.size f cdv)) →
      ∃ t, PSs (cxOf CX0 P w K mg base N qual scope f cdv A outer s H E).nox body t ∧
        ∀ (x : ι) (w0 : Wd) (σ : L2.St) (Q : VK), pre x → EnvOk w0.G σ ((as x).map some ++ List.replicate (N.length - (as x).length) none) → (∀ v w2, Le w0 w2 → (Φ x).P w2.G v → Q v w2.H) → t { nx := fun _ H' => Q .non H', rt := Q } σ w0.H) :
    FnOk P w K mg base CX0 (k + 1) f fd ps (spP pre as Φ) := by
  refine F.ok S (fun vs H Q E h => ?_) (fun cdv A outer s H vs Q E hr h => ?_)
  · obtain ⟨x, w, rfl, hp, a, _⟩ := h
    rw [a.len, hl]
  · obtain ⟨x, w, rfl, hp, a, k⟩ := h
    obtain ⟨t, ht, q⟩ := hb cdv A outer s w.H E hr
    exact ⟨t, ht.nox, q x w _ Q hp (args_start a) k⟩
end
end R40

set_option linter.all false
/-! The mathematics: sketches, deeds, what is left, going back, searches. No program in sight. -/
namespace M40
/-- where a changed cell's value comes from -/
inductive Src where
  | put (v : Nat)
  | copy (c : Nat)
structure Deed where
  guard : List (Nat × Nat)
  chg : List (Nat × Src)
structure Mach where
  sizes : List Nat
  deeds : List Deed
  first : List Nat
/-- the i-th number -/
def at0 (l : List Nat) (i : Nat) : Nat := l.getD i 0
def meetF (a b : List Nat) : Option (List Nat) := if 0 ∈ List.zipWith (· &&& ·) a b then none else some (List.zipWith (· &&& ·) a b)
def splitPart (a both : List Nat) (k : Nat) : List Nat := both.take k ++ [at0 a k ^^^ at0 both k] ++ a.drop (k + 1)
def splitF (a b : List Nat) : List (List Nat) := match meetF a b with
  | none => [a]
  | some both => ((List.range a.length).filter fun k => at0 a k ^^^ at0 both k != 0).map (splitPart a both)
def withoutF (a : List Nat) (piece : List (List Nat)) : List (List Nat) := piece.foldl (fun parts s => parts.flatMap fun o => splitF o s) [a]
def incF (a b : List Nat) : Bool := (List.zip a b).all fun p => p.1 &&& p.2 == p.1
def inF (s d : List Nat) : Bool := (List.zip s d).all fun p => p.1.testBit p.2
def hasF (piece : List (List Nat)) (d : List Nat) : Bool := piece.any fun s => inF s d
def canF (d : List Nat) (e : Deed) : Bool := e.guard.all fun p => p.2.testBit (at0 d p.1)
def srcF (d : List Nat) : Src → Nat
  | .put v => v
  | .copy c => at0 d c
def afterF (d : List Nat) (e : Deed) : List Nat := e.chg.foldl (fun vs p => vs.set p.1 (srcF d p.2)) d
/-- one change seen backwards -/
def backStep (s : List Nat) (m : Option (List Nat)) (p : Nat × Src) : Option (List Nat) := match m with
  | none => none
  | some m => match p.2 with
    | .put v => if (at0 s p.1).testBit v then some m else none
    | .copy c => some (m.set c (at0 m c &&& at0 s p.1))
def freed (z s : List Nat) (e : Deed) : List Nat := e.chg.foldl (fun m p => m.set p.1 (2 ^ at0 z p.1 - 1)) s
def backed (z s : List Nat) (e : Deed) : Option (List Nat) := e.chg.foldl (backStep s) (some (freed z s e))
def guarded (m : List Nat) (e : Deed) : List Nat := e.guard.foldl (fun m p => m.set p.1 (at0 m p.1 &&& p.2)) m
def beforeF (z s : List Nat) (e : Deed) : Option (List Nat) := match backed z s e with
  | none => none
  | some m => if 0 ∈ guarded m e then none else some (guarded m e)
/-- a search: its sketches, where each came from, the first that has a first disk -/
structure SS where
  sks : List (List Nat)
  org : List (Option (Nat × Nat))
  found : Option Nat
def SS.none : SS := ⟨[], [], Option.none⟩
def placeF (first : List Nat) (t : SS) (s : List Nat) (o : Option (Nat × Nat)) : SS × Nat := match t.sks.findIdx? (incF s) with
  | some k => (t, k)
  | none => (⟨t.sks ++ [s], t.org ++ [o], match t.found with
    | some f => some f
    | none => if (meetF s first).isSome then some t.sks.length else Option.none⟩, t.sks.length)
/-- several sketches placed, from the left: the search behind, their numbers -/
def placeAll (first : List Nat) (o : Option (Nat × Nat)) : SS → List (List Nat) → SS × List Nat
  | t, [] => (t, [])
  | t, s :: r => ((placeAll first o (placeF first t s o).1 r).1, (placeF first t s o).2 :: (placeAll first o (placeF first t s o).1 r).2)
def placesF (first : List Nat) (piece : List (List Nat)) (t : SS) (s : List Nat) (o : Option (Nat × Nat)) : SS × List Nat := placeAll first o t (withoutF s piece)
/-- the row of the sketch with a number: deed by deed -/
def rowGo (m : Mach) (piece : List (List Nat)) (number : Nat) : SS → Nat → List Deed → SS × List (List Nat)
  | t, _, [] => (t, [])
  | t, k, e :: r => match beforeF m.sizes (t.sks.getD number []) e with
    | none => ((rowGo m piece number t (k + 1) r).1, [] :: (rowGo m piece number t (k + 1) r).2)
    | some b => ((rowGo m piece number (placesF m.first piece t b (some (k, number))).1 (k + 1) r).1, (placesF m.first piece t b (some (k, number))).2 :: (rowGo m piece number (placesF m.first piece t b (some (k, number))).1 (k + 1) r).2)
def rowF (m : Mach) (piece : List (List Nat)) (t : SS) (number : Nat) : SS × List (List Nat) := rowGo m piece number t 0 m.deeds
def packF (s : List Nat) : Nat := s.foldl (fun p m => (p <<< 16) ||| m) 0
/-- the values of a set -/
def valuesF (m : Nat) : List Nat := (List.range m.log2.succ).filter fun v => m.testBit v
def leastF (s : List Nat) : List Nat := s.map fun m => (valuesF m).headD 0

/-! ### what fits a machine -/
def OkSk (z s : List Nat) : Prop := s.length = z.length ∧ ∀ i, i < z.length → 0 < at0 s i ∧ at0 s i < 2 ^ at0 z i
def OkDk (z d : List Nat) : Prop := d.length = z.length ∧ ∀ i, i < z.length → at0 d i < at0 z i
def Asc (l : List Nat) : Prop := l.Pairwise (· < ·)
def OkSrc (z : List Nat) (c : Nat) : Src → Prop
  | .put v => v < at0 z c
  | .copy o => o < z.length ∧ at0 z o ≤ at0 z c
structure OkDeed (z : List Nat) (e : Deed) : Prop where
  gAsc : Asc (e.guard.map (·.1))
  gIn : ∀ p ∈ e.guard, p.1 < z.length ∧ 0 < p.2 ∧ p.2 < 2 ^ at0 z p.1
  cAsc : Asc (e.chg.map (·.1))
  cIn : ∀ p ∈ e.chg, p.1 < z.length ∧ OkSrc z p.1 p.2
structure OkM (m : Mach) : Prop where
  pos : 1 ≤ m.sizes.length
  few : m.sizes.length ≤ 4
  size : ∀ i, i < m.sizes.length → 1 ≤ at0 m.sizes i ∧ at0 m.sizes i ≤ 3
  deeds : m.deeds.length ≤ 7
  deed : ∀ e ∈ m.deeds, OkDeed m.sizes e
  first : OkSk m.sizes m.first
end M40

set_option Elab.async false
set_option linter.all false
set_option maxRecDepth 100000
set_option maxHeartbeats 4000000
/-! The text by places; what is known of it behind the top. Printed by mk.py. -/
namespace R40
open PySem L2
def top (i : Nat) : Stmt := PySem.Challenge.pw_raisedwreck_k40_whole_between.main.body.getD i (.Pass ⟨0, 0, 0, 0⟩)
abbrev st_is_name : Stmt := top 12
abbrev N_is_name : List Str := ["text", "char"]
theorem sc_is_name : FnScope N_is_name ["text"] (defScope st_is_name) := ⟨rfl, rfl, rfl, by decide +kernel, rfl, by decide +kernel, by decide +kernel⟩
def d_is_name : He.DefD := ⟨("is_name", none), "is_name", "is_name", defArgs st_is_name, defBody st_is_name, defScope st_is_name, [], []⟩
abbrev st__check_names : Stmt := top 13
abbrev N__check_names : List Str := ["names", "name"]
theorem sc__check_names : FnScope N__check_names ["names"] (defScope st__check_names) := ⟨rfl, rfl, rfl, by decide +kernel, rfl, by decide +kernel, by decide +kernel⟩
def d__check_names : He.DefD := ⟨("_check_names", none), "_check_names", "_check_names", defArgs st__check_names, defBody st__check_names, defScope st__check_names, [], []⟩
abbrev st_is_mask : Stmt := top 14
abbrev N_is_mask : List Str := ["mask", "size"]
theorem sc_is_mask : FnScope N_is_mask ["mask", "size"] (defScope st_is_mask) := ⟨rfl, rfl, rfl, by decide +kernel, rfl, by decide +kernel, by decide +kernel⟩
def d_is_mask : He.DefD := ⟨("is_mask", none), "is_mask", "is_mask", defArgs st_is_mask, defBody st_is_mask, defScope st_is_mask, [], []⟩
abbrev st__check_order : Stmt := top 15
abbrev N__check_order : List Str := ["pairs", "count", "before", "cell", "_"]
theorem sc__check_order : FnScope N__check_order ["pairs", "count"] (defScope st__check_order) := ⟨rfl, rfl, rfl, by decide +kernel, rfl, by decide +kernel, by decide +kernel⟩
def d__check_order : He.DefD := ⟨("_check_order", none), "_check_order", "_check_order", defArgs st__check_order, defBody st__check_order, defScope st__check_order, [], []⟩
abbrev st_Machine_init : Stmt := inClass (top 16) 0
abbrev N_Machine_init : List Str := ["self", "cells", "deeds", "first", "sizes", "_", "guard", "changes", "name", "size", "deed", "mask"]
theorem sc_Machine_init : FnScope N_Machine_init ["self", "cells", "deeds", "first"] (defScope st_Machine_init) := ⟨rfl, rfl, rfl, by decide +kernel, rfl, by decide +kernel, by decide +kernel⟩
def d_Machine_init : He.DefD := ⟨("Machine", some "__init__"), "__init__", "Machine.__init__", defArgs st_Machine_init, defBody st_Machine_init, defScope st_Machine_init, [], []⟩
abbrev st_Machine__check_deed : Stmt := inClass (top 16) 1
abbrev N_Machine__check_deed : List Str := ["self", "sizes", "guard", "changes", "cell", "mask", "kind", "number"]
theorem sc_Machine__check_deed : FnScope N_Machine__check_deed ["self", "sizes", "guard", "changes"] (defScope st_Machine__check_deed) := ⟨rfl, rfl, rfl, by decide +kernel, rfl, by decide +kernel, by decide +kernel⟩
def d_Machine__check_deed : He.DefD := ⟨("Machine", some "_check_deed"), "_check_deed", "Machine._check_deed", defArgs st_Machine__check_deed, defBody st_Machine__check_deed, defScope st_Machine__check_deed, [], []⟩
abbrev st_Machine_full : Stmt := inClass (top 16) 2
abbrev N_Machine_full : List Str := ["self", "_", "size"]
theorem sc_Machine_full : FnScope N_Machine_full ["self"] (defScope st_Machine_full) := ⟨rfl, rfl, rfl, by decide +kernel, rfl, by decide +kernel, by decide +kernel⟩
abbrev st_check_sketch : Stmt := top 17
abbrev N_check_sketch : List Str := ["machine", "sketch", "mask", "_", "size"]
theorem sc_check_sketch : FnScope N_check_sketch ["machine", "sketch"] (defScope st_check_sketch) := ⟨rfl, rfl, rfl, by decide +kernel, rfl, by decide +kernel, by decide +kernel⟩
def d_check_sketch : He.DefD := ⟨("check_sketch", none), "check_sketch", "check_sketch", defArgs st_check_sketch, defBody st_check_sketch, defScope st_check_sketch, [], []⟩
abbrev st_sketch_before : Stmt := top 19
abbrev N_sketch_before : List Str := ["machine", "sketch", "deed", "_", "guard", "changes", "masks", "full", "cell", "kind", "number", "mask"]
theorem sc_sketch_before : FnScope N_sketch_before ["machine", "sketch", "deed"] (defScope st_sketch_before) := ⟨rfl, rfl, rfl, by decide +kernel, rfl, by decide +kernel, by decide +kernel⟩
def d_sketch_before : He.DefD := ⟨("sketch_before", none), "sketch_before", "sketch_before", defArgs st_sketch_before, defBody st_sketch_before, defScope st_sketch_before, [], []⟩
abbrev st_meet : Stmt := top 21
abbrev N_meet : List Str := ["a", "b", "masks", "left", "right"]
theorem sc_meet : FnScope N_meet ["a", "b"] (defScope st_meet) := ⟨rfl, rfl, rfl, by decide +kernel, rfl, by decide +kernel, by decide +kernel⟩
def d_meet : He.DefD := ⟨("meet", none), "meet", "meet", defArgs st_meet, defBody st_meet, defScope st_meet, [], []⟩
abbrev st__split : Stmt := top 22
abbrev N__split : List Str := ["a", "b", "both", "parts", "cell", "mask", "rest"]
theorem sc__split : FnScope N__split ["a", "b"] (defScope st__split) := ⟨rfl, rfl, rfl, by decide +kernel, rfl, by decide +kernel, by decide +kernel⟩
def d__split : He.DefD := ⟨("_split", none), "_split", "_split", defArgs st__split, defBody st__split, defScope st__split, [], []⟩
abbrev st_without : Stmt := top 23
abbrev N_without : List Str := ["a", "piece", "parts", "sketch", "other", "part"]
theorem sc_without : FnScope N_without ["a", "piece"] (defScope st_without) := ⟨rfl, rfl, rfl, by decide +kernel, rfl, by decide +kernel, by decide +kernel⟩
def d_without : He.DefD := ⟨("without", none), "without", "without", defArgs st_without, defBody st_without, defScope st_without, [], []⟩
abbrev st_values_of : Stmt := top 24
abbrev N_values_of : List Str := ["mask", "value"]
theorem sc_values_of : FnScope N_values_of ["mask"] (defScope st_values_of) := ⟨rfl, rfl, rfl, by decide +kernel, rfl, by decide +kernel, by decide +kernel⟩
def d_values_of : He.DefD := ⟨("values_of", none), "values_of", "values_of", defArgs st_values_of, defBody st_values_of, defScope st_values_of, [], []⟩
abbrev st_least_disk : Stmt := top 25
abbrev N_least_disk : List Str := ["sketch", "mask"]
theorem sc_least_disk : FnScope N_least_disk ["sketch"] (defScope st_least_disk) := ⟨rfl, rfl, rfl, by decide +kernel, rfl, by decide +kernel, by decide +kernel⟩
def d_least_disk : He.DefD := ⟨("least_disk", none), "least_disk", "least_disk", defArgs st_least_disk, defBody st_least_disk, defScope st_least_disk, [], []⟩
abbrev st_Paper_init : Stmt := inClass (top 27) 0
abbrev N_Paper_init : List Str := ["self", "sketches", "cover", "table", "sketch", "row", "entry"]
theorem sc_Paper_init : FnScope N_Paper_init ["self", "sketches", "cover", "table"] (defScope st_Paper_init) := ⟨rfl, rfl, rfl, by decide +kernel, rfl, by decide +kernel, by decide +kernel⟩
def d_Paper_init : He.DefD := ⟨("Paper", some "__init__"), "__init__", "Paper.__init__", defArgs st_Paper_init, defBody st_Paper_init, defScope st_Paper_init, [], []⟩
abbrev st_check_question : Stmt := top 28
abbrev N_check_question : List Str := ["machine", "image", "piece", "sketch"]
theorem sc_check_question : FnScope N_check_question ["machine", "image", "piece"] (defScope st_check_question) := ⟨rfl, rfl, rfl, by decide +kernel, rfl, by decide +kernel, by decide +kernel⟩
def d_check_question : He.DefD := ⟨("check_question", none), "check_question", "check_question", defArgs st_check_question, defBody st_check_question, defScope st_check_question, [], []⟩
abbrev st_packed_sketch : Stmt := top 29
abbrev N_packed_sketch : List Str := ["sketch", "packed", "mask"]
theorem sc_packed_sketch : FnScope N_packed_sketch ["sketch"] (defScope st_packed_sketch) := ⟨rfl, rfl, rfl, by decide +kernel, rfl, by decide +kernel, by decide +kernel⟩
def d_packed_sketch : He.DefD := ⟨("packed_sketch", none), "packed_sketch", "packed_sketch", defArgs st_packed_sketch, defBody st_packed_sketch, defScope st_packed_sketch, [], []⟩
abbrev st_Search_init : Stmt := inClass (top 30) 0
abbrev N_Search_init : List Str := ["self", "machine", "piece"]
theorem sc_Search_init : FnScope N_Search_init ["self", "machine", "piece"] (defScope st_Search_init) := ⟨rfl, rfl, rfl, by decide +kernel, rfl, by decide +kernel, by decide +kernel⟩
def d_Search_init : He.DefD := ⟨("Search", some "__init__"), "__init__", "Search.__init__", defArgs st_Search_init, defBody st_Search_init, defScope st_Search_init, [], []⟩
abbrev st_Search_place : Stmt := inClass (top 30) 1
abbrev N_Search_place : List Str := ["self", "sketch", "origin", "packed", "number", "other"]
theorem sc_Search_place : FnScope N_Search_place ["self", "sketch", "origin"] (defScope st_Search_place) := ⟨rfl, rfl, rfl, by decide +kernel, rfl, by decide +kernel, by decide +kernel⟩
def d_Search_place : He.DefD := ⟨("Search", some "place"), "place", "Search.place", defArgs st_Search_place, defBody st_Search_place, defScope st_Search_place, [], []⟩
abbrev st_Search_places : Stmt := inClass (top 30) 2
abbrev N_Search_places : List Str := ["self", "sketch", "origin", "part"]
theorem sc_Search_places : FnScope N_Search_places ["self", "sketch", "origin"] (defScope st_Search_places) := ⟨rfl, rfl, rfl, by decide +kernel, rfl, by decide +kernel, by decide +kernel⟩
def d_Search_places : He.DefD := ⟨("Search", some "places"), "places", "Search.places", defArgs st_Search_places, defBody st_Search_places, defScope st_Search_places, [], []⟩
abbrev st_Search_row : Stmt := inClass (top 30) 3
abbrev N_Search_row : List Str := ["self", "number", "entries", "deed", "earlier"]
theorem sc_Search_row : FnScope N_Search_row ["self", "number"] (defScope st_Search_row) := ⟨rfl, rfl, rfl, by decide +kernel, rfl, by decide +kernel, by decide +kernel⟩
def d_Search_row : He.DefD := ⟨("Search", some "row"), "row", "Search.row", defArgs st_Search_row, defBody st_Search_row, defScope st_Search_row, [], []⟩
abbrev st_Search_history : Stmt := inClass (top 30) 4
abbrev N_Search_history : List Str := ["self", "number", "disk", "deeds", "deed"]
theorem sc_Search_history : FnScope N_Search_history ["self"] (defScope st_Search_history) := ⟨rfl, rfl, rfl, by decide +kernel, rfl, by decide +kernel, by decide +kernel⟩
def d_Search_history : He.DefD := ⟨("Search", some "history"), "history", "Search.history", defArgs st_Search_history, defBody st_Search_history, defScope st_Search_history, [], []⟩
abbrev st_BetweenPaper_init : Stmt := inClass (top 32) 0
abbrev N_BetweenPaper_init : List Str := ["self", "sketches", "cover", "table", "links", "roots", "steps", "first", "second", "entry"]
theorem sc_BetweenPaper_init : FnScope N_BetweenPaper_init ["self", "sketches", "cover", "table", "links", "roots", "steps"] (defScope st_BetweenPaper_init) := ⟨rfl, rfl, rfl, by decide +kernel, rfl, by decide +kernel, by decide +kernel⟩
def d_BetweenPaper_init : He.DefD := ⟨("BetweenPaper", some "__init__"), "__init__", "BetweenPaper.__init__", defArgs st_BetweenPaper_init, defBody st_BetweenPaper_init, defScope st_BetweenPaper_init, [], []⟩
abbrev st_BetweenAnswer_init : Stmt := inClass (top 33) 0
abbrev N_BetweenAnswer_init : List Str := ["self", "told", "paper", "disk", "deeds", "moment"]
theorem sc_BetweenAnswer_init : FnScope N_BetweenAnswer_init ["self", "told", "paper", "disk", "deeds", "moment"] (defScope st_BetweenAnswer_init) := ⟨rfl, rfl, rfl, by decide +kernel, rfl, by decide +kernel, by decide +kernel⟩
def d_BetweenAnswer_init : He.DefD := ⟨("BetweenAnswer", some "__init__"), "__init__", "BetweenAnswer.__init__", defArgs st_BetweenAnswer_init, defBody st_BetweenAnswer_init, defScope st_BetweenAnswer_init, [], []⟩
abbrev st__check_questions : Stmt := top 34
abbrev N__check_questions : List Str := ["machine", "earlier", "later", "piece"]
theorem sc__check_questions : FnScope N__check_questions ["machine", "earlier", "later", "piece"] (defScope st__check_questions) := ⟨rfl, rfl, rfl, by decide +kernel, rfl, by decide +kernel, by decide +kernel⟩
def d__check_questions : He.DefD := ⟨("_check_questions", none), "_check_questions", "_check_questions", defArgs st__check_questions, defBody st__check_questions, defScope st__check_questions, [], []⟩
abbrev st__closed_rows : Stmt := top 35
abbrev N__closed_rows : List Str := ["search", "table"]
theorem sc__closed_rows : FnScope N__closed_rows ["search"] (defScope st__closed_rows) := ⟨rfl, rfl, rfl, by decide +kernel, rfl, by decide +kernel, by decide +kernel⟩
def d__closed_rows : He.DefD := ⟨("_closed_rows", none), "_closed_rows", "_closed_rows", defArgs st__closed_rows, defBody st__closed_rows, defScope st__closed_rows, [], []⟩
abbrev st__way : Stmt := top 36
abbrev N__way : List Str := ["search", "number", "deeds", "deed"]
theorem sc__way : FnScope N__way ["search", "number"] (defScope st__way) := ⟨rfl, rfl, rfl, by decide +kernel, rfl, by decide +kernel, by decide +kernel⟩
def d__way : He.DefD := ⟨("_way", none), "_way", "_way", defArgs st__way, defBody st__way, defScope st__way, [], []⟩
abbrev st__start : Stmt := top 37
abbrev N__start : List Str := ["search", "number"]
theorem sc__start : FnScope N__start ["search", "number"] (defScope st__start) := ⟨rfl, rfl, rfl, by decide +kernel, rfl, by decide +kernel, by decide +kernel⟩
def d__start : He.DefD := ⟨("_start", none), "_start", "_start", defArgs st__start, defBody st__start, defScope st__start, [], []⟩
abbrev st_tell_between : Stmt := top 38
abbrev N_tell_between : List Str := ["machine", "earlier", "later", "piece", "search", "cover", "table", "back", "links", "owners", "number", "sketch", "both", "steps", "paper", "disk", "deeds", "owner"]
theorem sc_tell_between : FnScope N_tell_between ["machine", "earlier", "later", "piece"] (defScope st_tell_between) := ⟨rfl, rfl, rfl, by decide +kernel, rfl, by decide +kernel, by decide +kernel⟩
def d_tell_between : He.DefD := ⟨("tell_between", none), "tell_between", "tell_between", defArgs st_tell_between, defBody st_tell_between, defScope st_tell_between, [], []⟩
abbrev st__law_cell : Stmt := top 40
abbrev N__law_cell : List Str := ["_law_script", "_law_k"]
theorem sc__law_cell : FnScope N__law_cell ["_law_script", "_law_k"] (defScope st__law_cell) := ⟨rfl, rfl, rfl, by decide +kernel, rfl, by decide +kernel, by decide +kernel⟩
def d__law_cell : He.DefD := ⟨("_law_cell", none), "_law_cell", "_law_cell", defArgs st__law_cell, defBody st__law_cell, defScope st__law_cell, [], []⟩
abbrev st__law_mix : Stmt := top 41
abbrev N__law_mix : List Str := ["_law_cell_here", "_law_k", "_law_number"]
theorem sc__law_mix : FnScope N__law_mix ["_law_cell_here", "_law_k"] (defScope st__law_mix) := ⟨rfl, rfl, rfl, by decide +kernel, rfl, by decide +kernel, by decide +kernel⟩
def d__law_mix : He.DefD := ⟨("_law_mix", none), "_law_mix", "_law_mix", defArgs st__law_mix, defBody st__law_mix, defScope st__law_mix, [], []⟩
abbrev st__law_is_int : Stmt := top 43
abbrev N__law_is_int : List Str := ["_law_value"]
theorem sc__law_is_int : FnScope N__law_is_int ["_law_value"] (defScope st__law_is_int) := ⟨rfl, rfl, rfl, by decide +kernel, rfl, by decide +kernel, by decide +kernel⟩
def d__law_is_int : He.DefD := ⟨("_law_is_int", none), "_law_is_int", "_law_is_int", defArgs st__law_is_int, defBody st__law_is_int, defScope st__law_is_int, [], []⟩
abbrev st__law_mask : Stmt := top 44
abbrev N__law_mask : List Str := ["_law_number", "_law_size"]
theorem sc__law_mask : FnScope N__law_mask ["_law_number", "_law_size"] (defScope st__law_mask) := ⟨rfl, rfl, rfl, by decide +kernel, rfl, by decide +kernel, by decide +kernel⟩
def d__law_mask : He.DefD := ⟨("_law_mask", none), "_law_mask", "_law_mask", defArgs st__law_mask, defBody st__law_mask, defScope st__law_mask, [], []⟩
abbrev st__law_deed : Stmt := top 45
abbrev N__law_deed : List Str := ["_law_cell_here", "_law_sizes", "_law_number", "_law_count", "_law_guard", "_law_changes", "_law_k", "_law_kind", "_law_other"]
theorem sc__law_deed : FnScope N__law_deed ["_law_cell_here", "_law_sizes", "_law_number"] (defScope st__law_deed) := ⟨rfl, rfl, rfl, by decide +kernel, rfl, by decide +kernel, by decide +kernel⟩
def d__law_deed : He.DefD := ⟨("_law_deed", none), "_law_deed", "_law_deed", defArgs st__law_deed, defBody st__law_deed, defScope st__law_deed, [], []⟩
abbrev st__law_parts : Stmt := top 46
abbrev N__law_parts : List Str := ["_law_script", "_law_first", "_law_most", "_law_count", "_law_sizes", "_law_cells", "_law_deeds", "_law_k", "_law_initial", "_law_mask_here"]
theorem sc__law_parts : FnScope N__law_parts ["_law_script", "_law_first", "_law_most"] (defScope st__law_parts) := ⟨rfl, rfl, rfl, by decide +kernel, rfl, by decide +kernel, by decide +kernel⟩
def d__law_parts : He.DefD := ⟨("_law_parts", none), "_law_parts", "_law_parts", defArgs st__law_parts, defBody st__law_parts, defScope st__law_parts, [], []⟩
abbrev st__law_sketch : Stmt := top 47
abbrev N__law_sketch : List Str := ["_law_cell_here", "_law_sizes", "_law_masks", "_law_k", "_law_number", "_law_mask_here"]
theorem sc__law_sketch : FnScope N__law_sketch ["_law_cell_here", "_law_sizes"] (defScope st__law_sketch) := ⟨rfl, rfl, rfl, by decide +kernel, rfl, by decide +kernel, by decide +kernel⟩
def d__law_sketch : He.DefD := ⟨("_law_sketch", none), "_law_sketch", "_law_sketch", defArgs st__law_sketch, defBody st__law_sketch, defScope st__law_sketch, [], []⟩
abbrev st__law_piece : Stmt := top 48
abbrev N__law_piece : List Str := ["_law_cell_here", "_law_sizes", "_law_k"]
theorem sc__law_piece : FnScope N__law_piece ["_law_cell_here", "_law_sizes"] (defScope st__law_piece) := ⟨rfl, rfl, rfl, by decide +kernel, rfl, by decide +kernel, by decide +kernel⟩
def d__law_piece : He.DefD := ⟨("_law_piece", none), "_law_piece", "_law_piece", defArgs st__law_piece, defBody st__law_piece, defScope st__law_piece, [], []⟩
abbrev st__law_in : Stmt := top 49
abbrev N__law_in : List Str := ["_law_sketch_here", "_law_disk", "_law_mask_here", "_law_value"]
theorem sc__law_in : FnScope N__law_in ["_law_sketch_here", "_law_disk"] (defScope st__law_in) := ⟨rfl, rfl, rfl, by decide +kernel, rfl, by decide +kernel, by decide +kernel⟩
def d__law_in : He.DefD := ⟨("_law_in", none), "_law_in", "_law_in", defArgs st__law_in, defBody st__law_in, defScope st__law_in, [], []⟩
abbrev st__law_has : Stmt := top 50
abbrev N__law_has : List Str := ["_law_piece_here", "_law_disk", "_law_sketch_here"]
theorem sc__law_has : FnScope N__law_has ["_law_piece_here", "_law_disk"] (defScope st__law_has) := ⟨rfl, rfl, rfl, by decide +kernel, rfl, by decide +kernel, by decide +kernel⟩
def d__law_has : He.DefD := ⟨("_law_has", none), "_law_has", "_law_has", defArgs st__law_has, defBody st__law_has, defScope st__law_has, [], []⟩
abbrev st__law_disks : Stmt := top 51
abbrev N__law_disks : List Str := ["_law_sketch_here", "_law_disks_here", "_law_mask_here", "_law_longer", "_law_disk", "_law_value"]
theorem sc__law_disks : FnScope N__law_disks ["_law_sketch_here"] (defScope st__law_disks) := ⟨rfl, rfl, rfl, by decide +kernel, rfl, by decide +kernel, by decide +kernel⟩
def d__law_disks : He.DefD := ⟨("_law_disks", none), "_law_disks", "_law_disks", defArgs st__law_disks, defBody st__law_disks, defScope st__law_disks, [], []⟩
abbrev st__law_can : Stmt := top 52
abbrev N__law_can : List Str := ["_law_deeds", "_law_disk", "_law_deed_here", "_law_cell_here", "_law_mask_here"]
theorem sc__law_can : FnScope N__law_can ["_law_deeds", "_law_disk", "_law_deed_here"] (defScope st__law_can) := ⟨rfl, rfl, rfl, by decide +kernel, rfl, by decide +kernel, by decide +kernel⟩
def d__law_can : He.DefD := ⟨("_law_can", none), "_law_can", "_law_can", defArgs st__law_can, defBody st__law_can, defScope st__law_can, [], []⟩
abbrev st__law_after : Stmt := top 53
abbrev N__law_after : List Str := ["_law_deeds", "_law_disk", "_law_deed_here", "_law_values", "_law_cell_here", "_law_source"]
theorem sc__law_after : FnScope N__law_after ["_law_deeds", "_law_disk", "_law_deed_here"] (defScope st__law_after) := ⟨rfl, rfl, rfl, by decide +kernel, rfl, by decide +kernel, by decide +kernel⟩
def d__law_after : He.DefD := ⟨("_law_after", none), "_law_after", "_law_after", defArgs st__law_after, defBody st__law_after, defScope st__law_after, [], []⟩
abbrev st__law_steps : Stmt := top 54
abbrev N__law_steps : List Str := ["_law_deeds", "_law_first", "_law_piece_here", "_law_steps_here", "_law_order", "_law_disk", "_law_k", "_law_deed_here", "_law_following"]
theorem sc__law_steps : FnScope N__law_steps ["_law_deeds", "_law_first", "_law_piece_here"] (defScope st__law_steps) := ⟨rfl, rfl, rfl, by decide +kernel, rfl, by decide +kernel, by decide +kernel⟩
def d__law_steps : He.DefD := ⟨("_law_steps", none), "_law_steps", "_law_steps", defArgs st__law_steps, defBody st__law_steps, defScope st__law_steps, [], []⟩
abbrev st__law_meet : Stmt := top 56
abbrev N__law_meet : List Str := ["_law_a", "_law_b", "_law_both", "_law_left", "_law_right"]
theorem sc__law_meet : FnScope N__law_meet ["_law_a", "_law_b"] (defScope st__law_meet) := ⟨rfl, rfl, rfl, by decide +kernel, rfl, by decide +kernel, by decide +kernel⟩
def d__law_meet : He.DefD := ⟨("_law_meet", none), "_law_meet", "_law_meet", defArgs st__law_meet, defBody st__law_meet, defScope st__law_meet, [], []⟩
abbrev st__law_split : Stmt := top 57
abbrev N__law_split : List Str := ["_law_a", "_law_b", "_law_both", "_law_parts_here", "_law_k"]
theorem sc__law_split : FnScope N__law_split ["_law_a", "_law_b"] (defScope st__law_split) := ⟨rfl, rfl, rfl, by decide +kernel, rfl, by decide +kernel, by decide +kernel⟩
def d__law_split : He.DefD := ⟨("_law_split", none), "_law_split", "_law_split", defArgs st__law_split, defBody st__law_split, defScope st__law_split, [], []⟩
abbrev st__law_without : Stmt := top 58
abbrev N__law_without : List Str := ["_law_a", "_law_piece_here", "_law_parts_here", "_law_sketch_here", "_law_following", "_law_part"]
theorem sc__law_without : FnScope N__law_without ["_law_a", "_law_piece_here"] (defScope st__law_without) := ⟨rfl, rfl, rfl, by decide +kernel, rfl, by decide +kernel, by decide +kernel⟩
def d__law_without : He.DefD := ⟨("_law_without", none), "_law_without", "_law_without", defArgs st__law_without, defBody st__law_without, defScope st__law_without, [], []⟩
abbrev st__law_before : Stmt := top 59
abbrev N__law_before : List Str := ["_law_deeds", "_law_sizes", "_law_sketch_here", "_law_deed_here", "_law_name", "_law_guard", "_law_changes", "_law_masks", "_law_cell_here", "_law_source", "_law_mask_here"]
theorem sc__law_before : FnScope N__law_before ["_law_deeds", "_law_sizes", "_law_sketch_here", "_law_deed_here"] (defScope st__law_before) := ⟨rfl, rfl, rfl, by decide +kernel, rfl, by decide +kernel, by decide +kernel⟩
def d__law_before : He.DefD := ⟨("_law_before", none), "_law_before", "_law_before", defArgs st__law_before, defBody st__law_before, defScope st__law_before, [], []⟩
abbrev st__law_included : Stmt := top 60
abbrev N__law_included : List Str := ["_law_a", "_law_b", "_law_left", "_law_right"]
theorem sc__law_included : FnScope N__law_included ["_law_a", "_law_b"] (defScope st__law_included) := ⟨rfl, rfl, rfl, by decide +kernel, rfl, by decide +kernel, by decide +kernel⟩
def d__law_included : He.DefD := ⟨("_law_included", none), "_law_included", "_law_included", defArgs st__law_included, defBody st__law_included, defScope st__law_included, [], []⟩
abbrev st__law_covers : Stmt := top 61
abbrev N__law_covers : List Str := ["_law_sketches", "_law_entry", "_law_parts_here", "_law_number", "_law_part"]
theorem sc__law_covers : FnScope N__law_covers ["_law_sketches", "_law_entry", "_law_parts_here"] (defScope st__law_covers) := ⟨rfl, rfl, rfl, by decide +kernel, rfl, by decide +kernel, by decide +kernel⟩
def d__law_covers : He.DefD := ⟨("_law_covers", none), "_law_covers", "_law_covers", defArgs st__law_covers, defBody st__law_covers, defScope st__law_covers, [], []⟩
abbrev st__law_are_sketches : Stmt := top 62
abbrev N__law_are_sketches : List Str := ["_law_sketches", "_law_sizes", "_law_sketch_here", "_law_mask_here", "_law_size"]
theorem sc__law_are_sketches : FnScope N__law_are_sketches ["_law_sketches", "_law_sizes"] (defScope st__law_are_sketches) := ⟨rfl, rfl, rfl, by decide +kernel, rfl, by decide +kernel, by decide +kernel⟩
def d__law_are_sketches : He.DefD := ⟨("_law_are_sketches", none), "_law_are_sketches", "_law_are_sketches", defArgs st__law_are_sketches, defBody st__law_are_sketches, defScope st__law_are_sketches, [], []⟩
abbrev st__law_is_closed : Stmt := top 63
abbrev N__law_is_closed : List Str := ["_law_deeds", "_law_sizes", "_law_sketches", "_law_table", "_law_piece_here", "_law_k", "_law_deed_here", "_law_place", "_law_parts_here"]
theorem sc__law_is_closed : FnScope N__law_is_closed ["_law_deeds", "_law_sizes", "_law_sketches", "_law_table", "_law_piece_here"] (defScope st__law_is_closed) := ⟨rfl, rfl, rfl, by decide +kernel, rfl, by decide +kernel, by decide +kernel⟩
def d__law_is_closed : He.DefD := ⟨("_law_is_closed", none), "_law_is_closed", "_law_is_closed", defArgs st__law_is_closed, defBody st__law_is_closed, defScope st__law_is_closed, [], []⟩
abbrev st__law_is_history : Stmt := top 65
abbrev N__law_is_history : List Str := ["_law_deeds", "_law_first", "_law_image", "_law_piece_here", "_law_disk", "_law_numbers", "_law_number"]
theorem sc__law_is_history : FnScope N__law_is_history ["_law_deeds", "_law_first", "_law_image", "_law_piece_here", "_law_disk", "_law_numbers"] (defScope st__law_is_history) := ⟨rfl, rfl, rfl, by decide +kernel, rfl, by decide +kernel, by decide +kernel⟩
def d__law_is_history : He.DefD := ⟨("_law_is_history", none), "_law_is_history", "_law_is_history", defArgs st__law_is_history, defBody st__law_is_history, defScope st__law_is_history, [], []⟩
abbrev st__law_is_between : Stmt := top 66
abbrev N__law_is_between : List Str := ["_law_deeds", "_law_sizes", "_law_first", "_law_earlier", "_law_later", "_law_piece_here", "_law_paper", "_law_sketch_here", "_law_k", "_law_both"]
theorem sc__law_is_between : FnScope N__law_is_between ["_law_deeds", "_law_sizes", "_law_first", "_law_earlier", "_law_later", "_law_piece_here", "_law_paper"] (defScope st__law_is_between) := ⟨rfl, rfl, rfl, by decide +kernel, rfl, by decide +kernel, by decide +kernel⟩
def d__law_is_between : He.DefD := ⟨("_law_is_between", none), "_law_is_between", "_law_is_between", defArgs st__law_is_between, defBody st__law_is_between, defScope st__law_is_between, [], []⟩
abbrev st__law_is_missing : Stmt := top 67
abbrev N__law_is_missing : List Str := ["_law_deeds", "_law_first", "_law_earlier", "_law_later", "_law_piece_here", "_law_starts", "_law_seen", "_law_disk", "_law_order", "_law_k", "_law_deed_here", "_law_following"]
theorem sc__law_is_missing : FnScope N__law_is_missing ["_law_deeds", "_law_first", "_law_earlier", "_law_later", "_law_piece_here"] (defScope st__law_is_missing) := ⟨rfl, rfl, rfl, by decide +kernel, rfl, by decide +kernel, by decide +kernel⟩
def d__law_is_missing : He.DefD := ⟨("_law_is_missing", none), "_law_is_missing", "_law_is_missing", defArgs st__law_is_missing, defBody st__law_is_missing, defScope st__law_is_missing, [], []⟩
abbrev st_law : Stmt := top 68
abbrev N_law : List Str := ["_law_script", "_law_cells", "_law_deeds", "_law_first", "_law_sizes", "_law_machine", "_law_earlier", "_law_later", "_law_piece_here", "_law_copy", "_law_answer", "_law_bad", "_law_disk", "_law_k", "_law_name", "_law_size"]
theorem sc_law : FnScope N_law ["_law_script"] (defScope st_law) := ⟨rfl, rfl, rfl, by decide +kernel, rfl, by decide +kernel, by decide +kernel⟩
def d_law : He.DefD := ⟨("law", none), "law", "law", defArgs st_law, defBody st_law, defScope st_law, [], []⟩
def fnL : List He.DefD := [d_is_name, d__check_names, d_is_mask, d__check_order, d_Machine_init, d_Machine__check_deed, d_check_sketch, d_sketch_before, d_meet, d__split, d_without, d_values_of, d_least_disk, d_Paper_init, d_check_question, d_packed_sketch, d_Search_init, d_Search_place, d_Search_places, d_Search_row, d_Search_history, d_BetweenPaper_init, d_BetweenAnswer_init, d__check_questions, d__closed_rows, d__way, d__start, d_tell_between, d__law_cell, d__law_mix, d__law_is_int, d__law_mask, d__law_deed, d__law_parts, d__law_sketch, d__law_piece, d__law_in, d__law_has, d__law_disks, d__law_can, d__law_after, d__law_steps, d__law_meet, d__law_split, d__law_without, d__law_before, d__law_included, d__law_covers, d__law_are_sketches, d__law_is_closed, d__law_is_history, d__law_is_between, d__law_is_missing, d_law]
def fa0 : List He.Fa := [.glo "is_name", .glo "_check_names", .glo "is_mask", .glo "_check_order", .glo "check_sketch", .glo "sketch_before", .glo "meet", .glo "_split", .glo "without", .glo "values_of", .glo "least_disk", .glo "check_question", .glo "packed_sketch", .glo "_check_questions", .glo "_closed_rows", .glo "_way", .glo "_start", .glo "tell_between", .glo "_law_cell", .glo "_law_mix", .glo "_law_is_int", .glo "_law_mask", .glo "_law_deed", .glo "_law_parts", .glo "_law_sketch", .glo "_law_piece", .glo "_law_in", .glo "_law_has", .glo "_law_disks", .glo "_law_can", .glo "_law_after", .glo "_law_steps", .glo "_law_meet", .glo "_law_split", .glo "_law_without", .glo "_law_before", .glo "_law_included", .glo "_law_covers", .glo "_law_are_sketches", .glo "_law_is_closed"]
def fa1 : List He.Fa := [.glo "_law_is_history", .glo "_law_is_between", .glo "_law_is_missing", .glo "law", .glo "Machine", .cls "Machine", .mkr "Machine", .noat "Machine" "cells", .noat "Machine" "deeds", .noat "Machine" "first", .glo "Search", .cls "Search", .mkr "Search", .noat "Search" "_machine", .noat "Search" "_piece", .noat "Search" "_packed", .noat "Search" "sketches", .noat "Search" "origins", .noat "Search" "found", .glo "Paper", .cls "Paper", .mkr "Paper", .noat "Paper" "sketches", .noat "Paper" "cover", .noat "Paper" "table", .glo "BetweenPaper", .cls "BetweenPaper", .mkr "BetweenPaper", .noat "BetweenPaper" "sketches", .noat "BetweenPaper" "cover", .noat "BetweenPaper" "table", .noat "BetweenPaper" "links", .noat "BetweenPaper" "roots", .noat "BetweenPaper" "steps", .glo "BetweenAnswer", .cls "BetweenAnswer", .mkr "BetweenAnswer", .noat "BetweenAnswer" "told", .noat "BetweenAnswer" "paper", .noat "BetweenAnswer" "disk"]
def fa2 : List He.Fa := [.noat "BetweenAnswer" "deeds", .noat "BetweenAnswer" "moment", .meth "Machine" "_check_deed", .meth "Search" "place", .meth "Search" "places", .meth "Search" "row", .meth "Search" "history", .int "MOST_CELLS" 24, .int "MOST_VALUES" 16, .int "MOST_DEEDS" 400, .int "LONGEST_NAME" 12, .str "LOWER" "abcdefghijklmnopqrstuvwxyz", .str "DIGITS" "0123456789", .free "len", .free "all", .free "set", .free "zip", .free "tuple", .free "range", .free "enumerate", .free "isinstance", .free "int", .free "bool", .free "str", .free "list"]
def faL : List He.Fa := fa0 ++ fa1 ++ fa2
/-- the getter of Machine.full: its property, its def -/
def fullP (K : PySem.W.Frag) : Addr := match PySem.W.findIn K (.ref (He.ga K "Machine")) "full" with
  | some (some (.ref p)) => p
  | _ => 0
def fullA (K : PySem.W.Frag) : Addr := match PySem.W.recIn K (fullP K) "property" with
  | some (.ref a :: _) => a
  | _ => 0
def fdA (K : PySem.W.Frag) (a : Addr) : FuncData := match K.lookup a with
  | some ⟨_, _, .func fd, _⟩ => fd
  | _ => default
theorem fdA_eq {K : PySem.W.Frag} {x qual : Str} {pa : Arguments} {bd : List Stmt} {sc : Scope} {a : Addr} {fd : FuncData} (F : FunD K x qual pa bd sc [] [] a fd) : fdA K a = fd := by
  obtain ⟨oc, od, dV, kV, doc, pm, an, cdv, ct, osl, e, l, _⟩ := F.ex
  unfold fdA
  rw [l]
structure Full (K : PySem.W.Frag) : Prop where
  prop : PropOf K (He.ga K "Machine") "full" (fullP K) (fullA K)
  fn : ∃ fd, FunD K "full" "Machine.full" (defArgs st_Machine_full) (defBody st_Machine_full) (defScope st_Machine_full) [] [] (fullA K) fd
def Txt (K : PySem.W.Frag) (mg : Str → Option Value) : Prop := (He.SaysD faL fnL K ∧ Full K) ∧ ∃ h : Heap, K.In h ∧ h.Ns mainGlobals mg
section
variable {K : PySem.W.Frag} {mg : Str → Option Value}
theorem Txt.g_is_name (T : Txt K mg) : mg "is_name" = some (.ref (He.ga K "is_name")) := let ⟨_, X, G⟩ := T.2; He.glo_ok X G (T.1.1.fact 0 (f := .glo "is_name") rfl)
theorem Txt.g__check_names (T : Txt K mg) : mg "_check_names" = some (.ref (He.ga K "_check_names")) := let ⟨_, X, G⟩ := T.2; He.glo_ok X G (T.1.1.fact 1 (f := .glo "_check_names") rfl)
theorem Txt.g_is_mask (T : Txt K mg) : mg "is_mask" = some (.ref (He.ga K "is_mask")) := let ⟨_, X, G⟩ := T.2; He.glo_ok X G (T.1.1.fact 2 (f := .glo "is_mask") rfl)
theorem Txt.g__check_order (T : Txt K mg) : mg "_check_order" = some (.ref (He.ga K "_check_order")) := let ⟨_, X, G⟩ := T.2; He.glo_ok X G (T.1.1.fact 3 (f := .glo "_check_order") rfl)
theorem Txt.g_check_sketch (T : Txt K mg) : mg "check_sketch" = some (.ref (He.ga K "check_sketch")) := let ⟨_, X, G⟩ := T.2; He.glo_ok X G (T.1.1.fact 4 (f := .glo "check_sketch") rfl)
theorem Txt.g_sketch_before (T : Txt K mg) : mg "sketch_before" = some (.ref (He.ga K "sketch_before")) := let ⟨_, X, G⟩ := T.2; He.glo_ok X G (T.1.1.fact 5 (f := .glo "sketch_before") rfl)
theorem Txt.g_meet (T : Txt K mg) : mg "meet" = some (.ref (He.ga K "meet")) := let ⟨_, X, G⟩ := T.2; He.glo_ok X G (T.1.1.fact 6 (f := .glo "meet") rfl)
theorem Txt.g__split (T : Txt K mg) : mg "_split" = some (.ref (He.ga K "_split")) := let ⟨_, X, G⟩ := T.2; He.glo_ok X G (T.1.1.fact 7 (f := .glo "_split") rfl)
theorem Txt.g_without (T : Txt K mg) : mg "without" = some (.ref (He.ga K "without")) := let ⟨_, X, G⟩ := T.2; He.glo_ok X G (T.1.1.fact 8 (f := .glo "without") rfl)
theorem Txt.g_values_of (T : Txt K mg) : mg "values_of" = some (.ref (He.ga K "values_of")) := let ⟨_, X, G⟩ := T.2; He.glo_ok X G (T.1.1.fact 9 (f := .glo "values_of") rfl)
theorem Txt.g_least_disk (T : Txt K mg) : mg "least_disk" = some (.ref (He.ga K "least_disk")) := let ⟨_, X, G⟩ := T.2; He.glo_ok X G (T.1.1.fact 10 (f := .glo "least_disk") rfl)
theorem Txt.g_check_question (T : Txt K mg) : mg "check_question" = some (.ref (He.ga K "check_question")) := let ⟨_, X, G⟩ := T.2; He.glo_ok X G (T.1.1.fact 11 (f := .glo "check_question") rfl)
theorem Txt.g_packed_sketch (T : Txt K mg) : mg "packed_sketch" = some (.ref (He.ga K "packed_sketch")) := let ⟨_, X, G⟩ := T.2; He.glo_ok X G (T.1.1.fact 12 (f := .glo "packed_sketch") rfl)
theorem Txt.g__check_questions (T : Txt K mg) : mg "_check_questions" = some (.ref (He.ga K "_check_questions")) := let ⟨_, X, G⟩ := T.2; He.glo_ok X G (T.1.1.fact 13 (f := .glo "_check_questions") rfl)
theorem Txt.g__closed_rows (T : Txt K mg) : mg "_closed_rows" = some (.ref (He.ga K "_closed_rows")) := let ⟨_, X, G⟩ := T.2; He.glo_ok X G (T.1.1.fact 14 (f := .glo "_closed_rows") rfl)
theorem Txt.g__way (T : Txt K mg) : mg "_way" = some (.ref (He.ga K "_way")) := let ⟨_, X, G⟩ := T.2; He.glo_ok X G (T.1.1.fact 15 (f := .glo "_way") rfl)
theorem Txt.g__start (T : Txt K mg) : mg "_start" = some (.ref (He.ga K "_start")) := let ⟨_, X, G⟩ := T.2; He.glo_ok X G (T.1.1.fact 16 (f := .glo "_start") rfl)
theorem Txt.g_tell_between (T : Txt K mg) : mg "tell_between" = some (.ref (He.ga K "tell_between")) := let ⟨_, X, G⟩ := T.2; He.glo_ok X G (T.1.1.fact 17 (f := .glo "tell_between") rfl)
theorem Txt.g__law_cell (T : Txt K mg) : mg "_law_cell" = some (.ref (He.ga K "_law_cell")) := let ⟨_, X, G⟩ := T.2; He.glo_ok X G (T.1.1.fact 18 (f := .glo "_law_cell") rfl)
theorem Txt.g__law_mix (T : Txt K mg) : mg "_law_mix" = some (.ref (He.ga K "_law_mix")) := let ⟨_, X, G⟩ := T.2; He.glo_ok X G (T.1.1.fact 19 (f := .glo "_law_mix") rfl)
theorem Txt.g__law_is_int (T : Txt K mg) : mg "_law_is_int" = some (.ref (He.ga K "_law_is_int")) := let ⟨_, X, G⟩ := T.2; He.glo_ok X G (T.1.1.fact 20 (f := .glo "_law_is_int") rfl)
theorem Txt.g__law_mask (T : Txt K mg) : mg "_law_mask" = some (.ref (He.ga K "_law_mask")) := let ⟨_, X, G⟩ := T.2; He.glo_ok X G (T.1.1.fact 21 (f := .glo "_law_mask") rfl)
theorem Txt.g__law_deed (T : Txt K mg) : mg "_law_deed" = some (.ref (He.ga K "_law_deed")) := let ⟨_, X, G⟩ := T.2; He.glo_ok X G (T.1.1.fact 22 (f := .glo "_law_deed") rfl)
theorem Txt.g__law_parts (T : Txt K mg) : mg "_law_parts" = some (.ref (He.ga K "_law_parts")) := let ⟨_, X, G⟩ := T.2; He.glo_ok X G (T.1.1.fact 23 (f := .glo "_law_parts") rfl)
theorem Txt.g__law_sketch (T : Txt K mg) : mg "_law_sketch" = some (.ref (He.ga K "_law_sketch")) := let ⟨_, X, G⟩ := T.2; He.glo_ok X G (T.1.1.fact 24 (f := .glo "_law_sketch") rfl)
theorem Txt.g__law_piece (T : Txt K mg) : mg "_law_piece" = some (.ref (He.ga K "_law_piece")) := let ⟨_, X, G⟩ := T.2; He.glo_ok X G (T.1.1.fact 25 (f := .glo "_law_piece") rfl)
theorem Txt.g__law_in (T : Txt K mg) : mg "_law_in" = some (.ref (He.ga K "_law_in")) := let ⟨_, X, G⟩ := T.2; He.glo_ok X G (T.1.1.fact 26 (f := .glo "_law_in") rfl)
theorem Txt.g__law_has (T : Txt K mg) : mg "_law_has" = some (.ref (He.ga K "_law_has")) := let ⟨_, X, G⟩ := T.2; He.glo_ok X G (T.1.1.fact 27 (f := .glo "_law_has") rfl)
theorem Txt.g__law_disks (T : Txt K mg) : mg "_law_disks" = some (.ref (He.ga K "_law_disks")) := let ⟨_, X, G⟩ := T.2; He.glo_ok X G (T.1.1.fact 28 (f := .glo "_law_disks") rfl)
theorem Txt.g__law_can (T : Txt K mg) : mg "_law_can" = some (.ref (He.ga K "_law_can")) := let ⟨_, X, G⟩ := T.2; He.glo_ok X G (T.1.1.fact 29 (f := .glo "_law_can") rfl)
theorem Txt.g__law_after (T : Txt K mg) : mg "_law_after" = some (.ref (He.ga K "_law_after")) := let ⟨_, X, G⟩ := T.2; He.glo_ok X G (T.1.1.fact 30 (f := .glo "_law_after") rfl)
theorem Txt.g__law_steps (T : Txt K mg) : mg "_law_steps" = some (.ref (He.ga K "_law_steps")) := let ⟨_, X, G⟩ := T.2; He.glo_ok X G (T.1.1.fact 31 (f := .glo "_law_steps") rfl)
theorem Txt.g__law_meet (T : Txt K mg) : mg "_law_meet" = some (.ref (He.ga K "_law_meet")) := let ⟨_, X, G⟩ := T.2; He.glo_ok X G (T.1.1.fact 32 (f := .glo "_law_meet") rfl)
theorem Txt.g__law_split (T : Txt K mg) : mg "_law_split" = some (.ref (He.ga K "_law_split")) := let ⟨_, X, G⟩ := T.2; He.glo_ok X G (T.1.1.fact 33 (f := .glo "_law_split") rfl)
theorem Txt.g__law_without (T : Txt K mg) : mg "_law_without" = some (.ref (He.ga K "_law_without")) := let ⟨_, X, G⟩ := T.2; He.glo_ok X G (T.1.1.fact 34 (f := .glo "_law_without") rfl)
theorem Txt.g__law_before (T : Txt K mg) : mg "_law_before" = some (.ref (He.ga K "_law_before")) := let ⟨_, X, G⟩ := T.2; He.glo_ok X G (T.1.1.fact 35 (f := .glo "_law_before") rfl)
theorem Txt.g__law_included (T : Txt K mg) : mg "_law_included" = some (.ref (He.ga K "_law_included")) := let ⟨_, X, G⟩ := T.2; He.glo_ok X G (T.1.1.fact 36 (f := .glo "_law_included") rfl)
theorem Txt.g__law_covers (T : Txt K mg) : mg "_law_covers" = some (.ref (He.ga K "_law_covers")) := let ⟨_, X, G⟩ := T.2; He.glo_ok X G (T.1.1.fact 37 (f := .glo "_law_covers") rfl)
theorem Txt.g__law_are_sketches (T : Txt K mg) : mg "_law_are_sketches" = some (.ref (He.ga K "_law_are_sketches")) := let ⟨_, X, G⟩ := T.2; He.glo_ok X G (T.1.1.fact 38 (f := .glo "_law_are_sketches") rfl)
theorem Txt.g__law_is_closed (T : Txt K mg) : mg "_law_is_closed" = some (.ref (He.ga K "_law_is_closed")) := let ⟨_, X, G⟩ := T.2; He.glo_ok X G (T.1.1.fact 39 (f := .glo "_law_is_closed") rfl)
theorem Txt.g__law_is_history (T : Txt K mg) : mg "_law_is_history" = some (.ref (He.ga K "_law_is_history")) := let ⟨_, X, G⟩ := T.2; He.glo_ok X G (T.1.1.fact 40 (f := .glo "_law_is_history") rfl)
theorem Txt.g__law_is_between (T : Txt K mg) : mg "_law_is_between" = some (.ref (He.ga K "_law_is_between")) := let ⟨_, X, G⟩ := T.2; He.glo_ok X G (T.1.1.fact 41 (f := .glo "_law_is_between") rfl)
theorem Txt.g__law_is_missing (T : Txt K mg) : mg "_law_is_missing" = some (.ref (He.ga K "_law_is_missing")) := let ⟨_, X, G⟩ := T.2; He.glo_ok X G (T.1.1.fact 42 (f := .glo "_law_is_missing") rfl)
theorem Txt.g_law (T : Txt K mg) : mg "law" = some (.ref (He.ga K "law")) := let ⟨_, X, G⟩ := T.2; He.glo_ok X G (T.1.1.fact 43 (f := .glo "law") rfl)
theorem Txt.g_Machine (T : Txt K mg) : mg "Machine" = some (.ref (He.ga K "Machine")) := let ⟨_, X, G⟩ := T.2; He.glo_ok X G (T.1.1.fact 44 (f := .glo "Machine") rfl)
theorem Txt.c_Machine (T : Txt K mg) : Cls K (He.ga K "Machine") := He.cls_ok (T.1.1.fact 45 (f := .cls "Machine") rfl)
theorem Txt.k_Machine (T : Txt K mg) : Mk K (He.ga K "Machine") (He.ma K (He.ga K "Machine") "__init__") := He.mkr_ok (T.1.1.fact 46 (f := .mkr "Machine") rfl)
theorem Txt.a_Machine_cells (T : Txt K mg) : NoAttr K (He.ga K "Machine") "cells" := He.noat_ok (T.1.1.fact 47 (f := .noat "Machine" "cells") rfl)
theorem Txt.a_Machine_deeds (T : Txt K mg) : NoAttr K (He.ga K "Machine") "deeds" := He.noat_ok (T.1.1.fact 48 (f := .noat "Machine" "deeds") rfl)
theorem Txt.a_Machine_first (T : Txt K mg) : NoAttr K (He.ga K "Machine") "first" := He.noat_ok (T.1.1.fact 49 (f := .noat "Machine" "first") rfl)
theorem Txt.g_Search (T : Txt K mg) : mg "Search" = some (.ref (He.ga K "Search")) := let ⟨_, X, G⟩ := T.2; He.glo_ok X G (T.1.1.fact 50 (f := .glo "Search") rfl)
theorem Txt.c_Search (T : Txt K mg) : Cls K (He.ga K "Search") := He.cls_ok (T.1.1.fact 51 (f := .cls "Search") rfl)
theorem Txt.k_Search (T : Txt K mg) : Mk K (He.ga K "Search") (He.ma K (He.ga K "Search") "__init__") := He.mkr_ok (T.1.1.fact 52 (f := .mkr "Search") rfl)
theorem Txt.a_Search__machine (T : Txt K mg) : NoAttr K (He.ga K "Search") "_machine" := He.noat_ok (T.1.1.fact 53 (f := .noat "Search" "_machine") rfl)
theorem Txt.a_Search__piece (T : Txt K mg) : NoAttr K (He.ga K "Search") "_piece" := He.noat_ok (T.1.1.fact 54 (f := .noat "Search" "_piece") rfl)
theorem Txt.a_Search__packed (T : Txt K mg) : NoAttr K (He.ga K "Search") "_packed" := He.noat_ok (T.1.1.fact 55 (f := .noat "Search" "_packed") rfl)
theorem Txt.a_Search_sketches (T : Txt K mg) : NoAttr K (He.ga K "Search") "sketches" := He.noat_ok (T.1.1.fact 56 (f := .noat "Search" "sketches") rfl)
theorem Txt.a_Search_origins (T : Txt K mg) : NoAttr K (He.ga K "Search") "origins" := He.noat_ok (T.1.1.fact 57 (f := .noat "Search" "origins") rfl)
theorem Txt.a_Search_found (T : Txt K mg) : NoAttr K (He.ga K "Search") "found" := He.noat_ok (T.1.1.fact 58 (f := .noat "Search" "found") rfl)
theorem Txt.g_Paper (T : Txt K mg) : mg "Paper" = some (.ref (He.ga K "Paper")) := let ⟨_, X, G⟩ := T.2; He.glo_ok X G (T.1.1.fact 59 (f := .glo "Paper") rfl)
theorem Txt.c_Paper (T : Txt K mg) : Cls K (He.ga K "Paper") := He.cls_ok (T.1.1.fact 60 (f := .cls "Paper") rfl)
theorem Txt.k_Paper (T : Txt K mg) : Mk K (He.ga K "Paper") (He.ma K (He.ga K "Paper") "__init__") := He.mkr_ok (T.1.1.fact 61 (f := .mkr "Paper") rfl)
theorem Txt.a_Paper_sketches (T : Txt K mg) : NoAttr K (He.ga K "Paper") "sketches" := He.noat_ok (T.1.1.fact 62 (f := .noat "Paper" "sketches") rfl)
theorem Txt.a_Paper_cover (T : Txt K mg) : NoAttr K (He.ga K "Paper") "cover" := He.noat_ok (T.1.1.fact 63 (f := .noat "Paper" "cover") rfl)
theorem Txt.a_Paper_table (T : Txt K mg) : NoAttr K (He.ga K "Paper") "table" := He.noat_ok (T.1.1.fact 64 (f := .noat "Paper" "table") rfl)
theorem Txt.g_BetweenPaper (T : Txt K mg) : mg "BetweenPaper" = some (.ref (He.ga K "BetweenPaper")) := let ⟨_, X, G⟩ := T.2; He.glo_ok X G (T.1.1.fact 65 (f := .glo "BetweenPaper") rfl)
theorem Txt.c_BetweenPaper (T : Txt K mg) : Cls K (He.ga K "BetweenPaper") := He.cls_ok (T.1.1.fact 66 (f := .cls "BetweenPaper") rfl)
theorem Txt.k_BetweenPaper (T : Txt K mg) : Mk K (He.ga K "BetweenPaper") (He.ma K (He.ga K "BetweenPaper") "__init__") := He.mkr_ok (T.1.1.fact 67 (f := .mkr "BetweenPaper") rfl)
theorem Txt.a_BetweenPaper_sketches (T : Txt K mg) : NoAttr K (He.ga K "BetweenPaper") "sketches" := He.noat_ok (T.1.1.fact 68 (f := .noat "BetweenPaper" "sketches") rfl)
theorem Txt.a_BetweenPaper_cover (T : Txt K mg) : NoAttr K (He.ga K "BetweenPaper") "cover" := He.noat_ok (T.1.1.fact 69 (f := .noat "BetweenPaper" "cover") rfl)
theorem Txt.a_BetweenPaper_table (T : Txt K mg) : NoAttr K (He.ga K "BetweenPaper") "table" := He.noat_ok (T.1.1.fact 70 (f := .noat "BetweenPaper" "table") rfl)
theorem Txt.a_BetweenPaper_links (T : Txt K mg) : NoAttr K (He.ga K "BetweenPaper") "links" := He.noat_ok (T.1.1.fact 71 (f := .noat "BetweenPaper" "links") rfl)
theorem Txt.a_BetweenPaper_roots (T : Txt K mg) : NoAttr K (He.ga K "BetweenPaper") "roots" := He.noat_ok (T.1.1.fact 72 (f := .noat "BetweenPaper" "roots") rfl)
theorem Txt.a_BetweenPaper_steps (T : Txt K mg) : NoAttr K (He.ga K "BetweenPaper") "steps" := He.noat_ok (T.1.1.fact 73 (f := .noat "BetweenPaper" "steps") rfl)
theorem Txt.g_BetweenAnswer (T : Txt K mg) : mg "BetweenAnswer" = some (.ref (He.ga K "BetweenAnswer")) := let ⟨_, X, G⟩ := T.2; He.glo_ok X G (T.1.1.fact 74 (f := .glo "BetweenAnswer") rfl)
theorem Txt.c_BetweenAnswer (T : Txt K mg) : Cls K (He.ga K "BetweenAnswer") := He.cls_ok (T.1.1.fact 75 (f := .cls "BetweenAnswer") rfl)
theorem Txt.k_BetweenAnswer (T : Txt K mg) : Mk K (He.ga K "BetweenAnswer") (He.ma K (He.ga K "BetweenAnswer") "__init__") := He.mkr_ok (T.1.1.fact 76 (f := .mkr "BetweenAnswer") rfl)
theorem Txt.a_BetweenAnswer_told (T : Txt K mg) : NoAttr K (He.ga K "BetweenAnswer") "told" := He.noat_ok (T.1.1.fact 77 (f := .noat "BetweenAnswer" "told") rfl)
theorem Txt.a_BetweenAnswer_paper (T : Txt K mg) : NoAttr K (He.ga K "BetweenAnswer") "paper" := He.noat_ok (T.1.1.fact 78 (f := .noat "BetweenAnswer" "paper") rfl)
theorem Txt.a_BetweenAnswer_disk (T : Txt K mg) : NoAttr K (He.ga K "BetweenAnswer") "disk" := He.noat_ok (T.1.1.fact 79 (f := .noat "BetweenAnswer" "disk") rfl)
theorem Txt.a_BetweenAnswer_deeds (T : Txt K mg) : NoAttr K (He.ga K "BetweenAnswer") "deeds" := He.noat_ok (T.1.1.fact 80 (f := .noat "BetweenAnswer" "deeds") rfl)
theorem Txt.a_BetweenAnswer_moment (T : Txt K mg) : NoAttr K (He.ga K "BetweenAnswer") "moment" := He.noat_ok (T.1.1.fact 81 (f := .noat "BetweenAnswer" "moment") rfl)
theorem Txt.m_Machine__check_deed (T : Txt K mg) : Meth K (He.ga K "Machine") "_check_deed" (He.ma K (He.ga K "Machine") "_check_deed") := He.meth_ok (T.1.1.fact 82 (f := .meth "Machine" "_check_deed") rfl)
theorem Txt.m_Search_place (T : Txt K mg) : Meth K (He.ga K "Search") "place" (He.ma K (He.ga K "Search") "place") := He.meth_ok (T.1.1.fact 83 (f := .meth "Search" "place") rfl)
theorem Txt.m_Search_places (T : Txt K mg) : Meth K (He.ga K "Search") "places" (He.ma K (He.ga K "Search") "places") := He.meth_ok (T.1.1.fact 84 (f := .meth "Search" "places") rfl)
theorem Txt.m_Search_row (T : Txt K mg) : Meth K (He.ga K "Search") "row" (He.ma K (He.ga K "Search") "row") := He.meth_ok (T.1.1.fact 85 (f := .meth "Search" "row") rfl)
theorem Txt.m_Search_history (T : Txt K mg) : Meth K (He.ga K "Search") "history" (He.ma K (He.ga K "Search") "history") := He.meth_ok (T.1.1.fact 86 (f := .meth "Search" "history") rfl)
theorem Txt.g_MOST_CELLS (T : Txt K mg) : ∃ t, mg "MOST_CELLS" = some (.int 24 t) := let ⟨_, X, G⟩ := T.2; He.int_ok X G (T.1.1.fact 87 (f := .int "MOST_CELLS" 24) rfl)
theorem Txt.g_MOST_VALUES (T : Txt K mg) : ∃ t, mg "MOST_VALUES" = some (.int 16 t) := let ⟨_, X, G⟩ := T.2; He.int_ok X G (T.1.1.fact 88 (f := .int "MOST_VALUES" 16) rfl)
theorem Txt.g_MOST_DEEDS (T : Txt K mg) : ∃ t, mg "MOST_DEEDS" = some (.int 400 t) := let ⟨_, X, G⟩ := T.2; He.int_ok X G (T.1.1.fact 89 (f := .int "MOST_DEEDS" 400) rfl)
theorem Txt.g_LONGEST_NAME (T : Txt K mg) : ∃ t, mg "LONGEST_NAME" = some (.int 12 t) := let ⟨_, X, G⟩ := T.2; He.int_ok X G (T.1.1.fact 90 (f := .int "LONGEST_NAME" 12) rfl)
theorem Txt.g_LOWER (T : Txt K mg) : ∃ t, mg "LOWER" = some (.str "abcdefghijklmnopqrstuvwxyz" t) := let ⟨_, X, G⟩ := T.2; He.str_ok X G (T.1.1.fact 91 (f := .str "LOWER" "abcdefghijklmnopqrstuvwxyz") rfl)
theorem Txt.g_DIGITS (T : Txt K mg) : ∃ t, mg "DIGITS" = some (.str "0123456789" t) := let ⟨_, X, G⟩ := T.2; He.str_ok X G (T.1.1.fact 92 (f := .str "DIGITS" "0123456789") rfl)
theorem Txt.n_len (T : Txt K mg) : mg "len" = none := let ⟨_, X, G⟩ := T.2; He.free_ok X G (T.1.1.fact 93 (f := .free "len") rfl)
theorem Txt.n_all (T : Txt K mg) : mg "all" = none := let ⟨_, X, G⟩ := T.2; He.free_ok X G (T.1.1.fact 94 (f := .free "all") rfl)
theorem Txt.n_set (T : Txt K mg) : mg "set" = none := let ⟨_, X, G⟩ := T.2; He.free_ok X G (T.1.1.fact 95 (f := .free "set") rfl)
theorem Txt.n_zip (T : Txt K mg) : mg "zip" = none := let ⟨_, X, G⟩ := T.2; He.free_ok X G (T.1.1.fact 96 (f := .free "zip") rfl)
theorem Txt.n_tuple (T : Txt K mg) : mg "tuple" = none := let ⟨_, X, G⟩ := T.2; He.free_ok X G (T.1.1.fact 97 (f := .free "tuple") rfl)
theorem Txt.n_range (T : Txt K mg) : mg "range" = none := let ⟨_, X, G⟩ := T.2; He.free_ok X G (T.1.1.fact 98 (f := .free "range") rfl)
theorem Txt.n_enumerate (T : Txt K mg) : mg "enumerate" = none := let ⟨_, X, G⟩ := T.2; He.free_ok X G (T.1.1.fact 99 (f := .free "enumerate") rfl)
theorem Txt.n_isinstance (T : Txt K mg) : mg "isinstance" = none := let ⟨_, X, G⟩ := T.2; He.free_ok X G (T.1.1.fact 100 (f := .free "isinstance") rfl)
theorem Txt.n_int (T : Txt K mg) : mg "int" = none := let ⟨_, X, G⟩ := T.2; He.free_ok X G (T.1.1.fact 101 (f := .free "int") rfl)
theorem Txt.n_bool (T : Txt K mg) : mg "bool" = none := let ⟨_, X, G⟩ := T.2; He.free_ok X G (T.1.1.fact 102 (f := .free "bool") rfl)
theorem Txt.n_str (T : Txt K mg) : mg "str" = none := let ⟨_, X, G⟩ := T.2; He.free_ok X G (T.1.1.fact 103 (f := .free "str") rfl)
theorem Txt.n_list (T : Txt K mg) : mg "list" = none := let ⟨_, X, G⟩ := T.2; He.free_ok X G (T.1.1.fact 104 (f := .free "list") rfl)
theorem Txt.f_is_name (T : Txt K mg) : FunD K "is_name" "is_name" (defArgs st_is_name) (defBody st_is_name) (defScope st_is_name) [] [] (He.ga K "is_name") (fdA K (He.ga K "is_name")) := by
  obtain ⟨fd, F⟩ := T.1.1.def_ 0 (d := d_is_name) rfl
  have F : FunD K "is_name" "is_name" (defArgs st_is_name) (defBody st_is_name) (defScope st_is_name) [] [] (He.ga K "is_name") fd := F
  rw [fdA_eq F]
  exact F
theorem Txt.b_is_name (T : Txt K mg) : Binds K (fdA K (He.ga K "is_name")) ["text"] [] := T.f_is_name.bindsN fun _ _ _ _ _ _ us hl => match us, hl with | [_], _ => rfl
theorem Txt.f__check_names (T : Txt K mg) : FunD K "_check_names" "_check_names" (defArgs st__check_names) (defBody st__check_names) (defScope st__check_names) [] [] (He.ga K "_check_names") (fdA K (He.ga K "_check_names")) := by
  obtain ⟨fd, F⟩ := T.1.1.def_ 1 (d := d__check_names) rfl
  have F : FunD K "_check_names" "_check_names" (defArgs st__check_names) (defBody st__check_names) (defScope st__check_names) [] [] (He.ga K "_check_names") fd := F
  rw [fdA_eq F]
  exact F
theorem Txt.b__check_names (T : Txt K mg) : Binds K (fdA K (He.ga K "_check_names")) ["names"] [] := T.f__check_names.bindsN fun _ _ _ _ _ _ us hl => match us, hl with | [_], _ => rfl
theorem Txt.f_is_mask (T : Txt K mg) : FunD K "is_mask" "is_mask" (defArgs st_is_mask) (defBody st_is_mask) (defScope st_is_mask) [] [] (He.ga K "is_mask") (fdA K (He.ga K "is_mask")) := by
  obtain ⟨fd, F⟩ := T.1.1.def_ 2 (d := d_is_mask) rfl
  have F : FunD K "is_mask" "is_mask" (defArgs st_is_mask) (defBody st_is_mask) (defScope st_is_mask) [] [] (He.ga K "is_mask") fd := F
  rw [fdA_eq F]
  exact F
theorem Txt.b_is_mask (T : Txt K mg) : Binds K (fdA K (He.ga K "is_mask")) ["mask", "size"] [] := T.f_is_mask.bindsN fun _ _ _ _ _ _ us hl => match us, hl with | [_, _], _ => rfl
theorem Txt.f__check_order (T : Txt K mg) : FunD K "_check_order" "_check_order" (defArgs st__check_order) (defBody st__check_order) (defScope st__check_order) [] [] (He.ga K "_check_order") (fdA K (He.ga K "_check_order")) := by
  obtain ⟨fd, F⟩ := T.1.1.def_ 3 (d := d__check_order) rfl
  have F : FunD K "_check_order" "_check_order" (defArgs st__check_order) (defBody st__check_order) (defScope st__check_order) [] [] (He.ga K "_check_order") fd := F
  rw [fdA_eq F]
  exact F
theorem Txt.b__check_order (T : Txt K mg) : Binds K (fdA K (He.ga K "_check_order")) ["pairs", "count"] [] := T.f__check_order.bindsN fun _ _ _ _ _ _ us hl => match us, hl with | [_, _], _ => rfl
theorem Txt.f_Machine_init (T : Txt K mg) : FunD K "__init__" "Machine.__init__" (defArgs st_Machine_init) (defBody st_Machine_init) (defScope st_Machine_init) [] [] (He.ma K (He.ga K "Machine") "__init__") (fdA K (He.ma K (He.ga K "Machine") "__init__")) := by
  obtain ⟨fd, F⟩ := T.1.1.def_ 4 (d := d_Machine_init) rfl
  have F : FunD K "__init__" "Machine.__init__" (defArgs st_Machine_init) (defBody st_Machine_init) (defScope st_Machine_init) [] [] (He.ma K (He.ga K "Machine") "__init__") fd := F
  rw [fdA_eq F]
  exact F
theorem Txt.b_Machine_init (T : Txt K mg) : Binds K (fdA K (He.ma K (He.ga K "Machine") "__init__")) ["self", "cells", "deeds", "first"] [] := T.f_Machine_init.bindsN fun _ _ _ _ _ _ us hl => match us, hl with | [_, _, _, _], _ => rfl
theorem Txt.f_Machine__check_deed (T : Txt K mg) : FunD K "_check_deed" "Machine._check_deed" (defArgs st_Machine__check_deed) (defBody st_Machine__check_deed) (defScope st_Machine__check_deed) [] [] (He.ma K (He.ga K "Machine") "_check_deed") (fdA K (He.ma K (He.ga K "Machine") "_check_deed")) := by
  obtain ⟨fd, F⟩ := T.1.1.def_ 5 (d := d_Machine__check_deed) rfl
  have F : FunD K "_check_deed" "Machine._check_deed" (defArgs st_Machine__check_deed) (defBody st_Machine__check_deed) (defScope st_Machine__check_deed) [] [] (He.ma K (He.ga K "Machine") "_check_deed") fd := F
  rw [fdA_eq F]
  exact F
theorem Txt.b_Machine__check_deed (T : Txt K mg) : Binds K (fdA K (He.ma K (He.ga K "Machine") "_check_deed")) ["self", "sizes", "guard", "changes"] [] := T.f_Machine__check_deed.bindsN fun _ _ _ _ _ _ us hl => match us, hl with | [_, _, _, _], _ => rfl
theorem Txt.f_Machine_full (T : Txt K mg) : FunD K "full" "Machine.full" (defArgs st_Machine_full) (defBody st_Machine_full) (defScope st_Machine_full) [] [] (fullA K) (fdA K (fullA K)) := by
  obtain ⟨fd, F⟩ := T.1.2.fn
  have F : FunD K "full" "Machine.full" (defArgs st_Machine_full) (defBody st_Machine_full) (defScope st_Machine_full) [] [] (fullA K) fd := F
  rw [fdA_eq F]
  exact F
theorem Txt.b_Machine_full (T : Txt K mg) : Binds K (fdA K (fullA K)) ["self"] [] := T.f_Machine_full.bindsN fun _ _ _ _ _ _ us hl => match us, hl with | [_], _ => rfl
theorem Txt.f_check_sketch (T : Txt K mg) : FunD K "check_sketch" "check_sketch" (defArgs st_check_sketch) (defBody st_check_sketch) (defScope st_check_sketch) [] [] (He.ga K "check_sketch") (fdA K (He.ga K "check_sketch")) := by
  obtain ⟨fd, F⟩ := T.1.1.def_ 6 (d := d_check_sketch) rfl
  have F : FunD K "check_sketch" "check_sketch" (defArgs st_check_sketch) (defBody st_check_sketch) (defScope st_check_sketch) [] [] (He.ga K "check_sketch") fd := F
  rw [fdA_eq F]
  exact F
theorem Txt.b_check_sketch (T : Txt K mg) : Binds K (fdA K (He.ga K "check_sketch")) ["machine", "sketch"] [] := T.f_check_sketch.bindsN fun _ _ _ _ _ _ us hl => match us, hl with | [_, _], _ => rfl
theorem Txt.f_sketch_before (T : Txt K mg) : FunD K "sketch_before" "sketch_before" (defArgs st_sketch_before) (defBody st_sketch_before) (defScope st_sketch_before) [] [] (He.ga K "sketch_before") (fdA K (He.ga K "sketch_before")) := by
  obtain ⟨fd, F⟩ := T.1.1.def_ 7 (d := d_sketch_before) rfl
  have F : FunD K "sketch_before" "sketch_before" (defArgs st_sketch_before) (defBody st_sketch_before) (defScope st_sketch_before) [] [] (He.ga K "sketch_before") fd := F
  rw [fdA_eq F]
  exact F
theorem Txt.b_sketch_before (T : Txt K mg) : Binds K (fdA K (He.ga K "sketch_before")) ["machine", "sketch", "deed"] [] := T.f_sketch_before.bindsN fun _ _ _ _ _ _ us hl => match us, hl with | [_, _, _], _ => rfl
theorem Txt.f_meet (T : Txt K mg) : FunD K "meet" "meet" (defArgs st_meet) (defBody st_meet) (defScope st_meet) [] [] (He.ga K "meet") (fdA K (He.ga K "meet")) := by
  obtain ⟨fd, F⟩ := T.1.1.def_ 8 (d := d_meet) rfl
  have F : FunD K "meet" "meet" (defArgs st_meet) (defBody st_meet) (defScope st_meet) [] [] (He.ga K "meet") fd := F
  rw [fdA_eq F]
  exact F
theorem Txt.b_meet (T : Txt K mg) : Binds K (fdA K (He.ga K "meet")) ["a", "b"] [] := T.f_meet.bindsN fun _ _ _ _ _ _ us hl => match us, hl with | [_, _], _ => rfl
theorem Txt.f__split (T : Txt K mg) : FunD K "_split" "_split" (defArgs st__split) (defBody st__split) (defScope st__split) [] [] (He.ga K "_split") (fdA K (He.ga K "_split")) := by
  obtain ⟨fd, F⟩ := T.1.1.def_ 9 (d := d__split) rfl
  have F : FunD K "_split" "_split" (defArgs st__split) (defBody st__split) (defScope st__split) [] [] (He.ga K "_split") fd := F
  rw [fdA_eq F]
  exact F
theorem Txt.b__split (T : Txt K mg) : Binds K (fdA K (He.ga K "_split")) ["a", "b"] [] := T.f__split.bindsN fun _ _ _ _ _ _ us hl => match us, hl with | [_, _], _ => rfl
theorem Txt.f_without (T : Txt K mg) : FunD K "without" "without" (defArgs st_without) (defBody st_without) (defScope st_without) [] [] (He.ga K "without") (fdA K (He.ga K "without")) := by
  obtain ⟨fd, F⟩ := T.1.1.def_ 10 (d := d_without) rfl
  have F : FunD K "without" "without" (defArgs st_without) (defBody st_without) (defScope st_without) [] [] (He.ga K "without") fd := F
  rw [fdA_eq F]
  exact F
theorem Txt.b_without (T : Txt K mg) : Binds K (fdA K (He.ga K "without")) ["a", "piece"] [] := T.f_without.bindsN fun _ _ _ _ _ _ us hl => match us, hl with | [_, _], _ => rfl
theorem Txt.f_values_of (T : Txt K mg) : FunD K "values_of" "values_of" (defArgs st_values_of) (defBody st_values_of) (defScope st_values_of) [] [] (He.ga K "values_of") (fdA K (He.ga K "values_of")) := by
  obtain ⟨fd, F⟩ := T.1.1.def_ 11 (d := d_values_of) rfl
  have F : FunD K "values_of" "values_of" (defArgs st_values_of) (defBody st_values_of) (defScope st_values_of) [] [] (He.ga K "values_of") fd := F
  rw [fdA_eq F]
  exact F
theorem Txt.b_values_of (T : Txt K mg) : Binds K (fdA K (He.ga K "values_of")) ["mask"] [] := T.f_values_of.bindsN fun _ _ _ _ _ _ us hl => match us, hl with | [_], _ => rfl
theorem Txt.f_least_disk (T : Txt K mg) : FunD K "least_disk" "least_disk" (defArgs st_least_disk) (defBody st_least_disk) (defScope st_least_disk) [] [] (He.ga K "least_disk") (fdA K (He.ga K "least_disk")) := by
  obtain ⟨fd, F⟩ := T.1.1.def_ 12 (d := d_least_disk) rfl
  have F : FunD K "least_disk" "least_disk" (defArgs st_least_disk) (defBody st_least_disk) (defScope st_least_disk) [] [] (He.ga K "least_disk") fd := F
  rw [fdA_eq F]
  exact F
theorem Txt.b_least_disk (T : Txt K mg) : Binds K (fdA K (He.ga K "least_disk")) ["sketch"] [] := T.f_least_disk.bindsN fun _ _ _ _ _ _ us hl => match us, hl with | [_], _ => rfl
theorem Txt.f_Paper_init (T : Txt K mg) : FunD K "__init__" "Paper.__init__" (defArgs st_Paper_init) (defBody st_Paper_init) (defScope st_Paper_init) [] [] (He.ma K (He.ga K "Paper") "__init__") (fdA K (He.ma K (He.ga K "Paper") "__init__")) := by
  obtain ⟨fd, F⟩ := T.1.1.def_ 13 (d := d_Paper_init) rfl
  have F : FunD K "__init__" "Paper.__init__" (defArgs st_Paper_init) (defBody st_Paper_init) (defScope st_Paper_init) [] [] (He.ma K (He.ga K "Paper") "__init__") fd := F
  rw [fdA_eq F]
  exact F
theorem Txt.b_Paper_init (T : Txt K mg) : Binds K (fdA K (He.ma K (He.ga K "Paper") "__init__")) ["self", "sketches", "cover", "table"] [] := T.f_Paper_init.bindsN fun _ _ _ _ _ _ us hl => match us, hl with | [_, _, _, _], _ => rfl
theorem Txt.f_check_question (T : Txt K mg) : FunD K "check_question" "check_question" (defArgs st_check_question) (defBody st_check_question) (defScope st_check_question) [] [] (He.ga K "check_question") (fdA K (He.ga K "check_question")) := by
  obtain ⟨fd, F⟩ := T.1.1.def_ 14 (d := d_check_question) rfl
  have F : FunD K "check_question" "check_question" (defArgs st_check_question) (defBody st_check_question) (defScope st_check_question) [] [] (He.ga K "check_question") fd := F
  rw [fdA_eq F]
  exact F
theorem Txt.b_check_question (T : Txt K mg) : Binds K (fdA K (He.ga K "check_question")) ["machine", "image", "piece"] [] := T.f_check_question.bindsN fun _ _ _ _ _ _ us hl => match us, hl with | [_, _, _], _ => rfl
theorem Txt.f_packed_sketch (T : Txt K mg) : FunD K "packed_sketch" "packed_sketch" (defArgs st_packed_sketch) (defBody st_packed_sketch) (defScope st_packed_sketch) [] [] (He.ga K "packed_sketch") (fdA K (He.ga K "packed_sketch")) := by
  obtain ⟨fd, F⟩ := T.1.1.def_ 15 (d := d_packed_sketch) rfl
  have F : FunD K "packed_sketch" "packed_sketch" (defArgs st_packed_sketch) (defBody st_packed_sketch) (defScope st_packed_sketch) [] [] (He.ga K "packed_sketch") fd := F
  rw [fdA_eq F]
  exact F
theorem Txt.b_packed_sketch (T : Txt K mg) : Binds K (fdA K (He.ga K "packed_sketch")) ["sketch"] [] := T.f_packed_sketch.bindsN fun _ _ _ _ _ _ us hl => match us, hl with | [_], _ => rfl
theorem Txt.f_Search_init (T : Txt K mg) : FunD K "__init__" "Search.__init__" (defArgs st_Search_init) (defBody st_Search_init) (defScope st_Search_init) [] [] (He.ma K (He.ga K "Search") "__init__") (fdA K (He.ma K (He.ga K "Search") "__init__")) := by
  obtain ⟨fd, F⟩ := T.1.1.def_ 16 (d := d_Search_init) rfl
  have F : FunD K "__init__" "Search.__init__" (defArgs st_Search_init) (defBody st_Search_init) (defScope st_Search_init) [] [] (He.ma K (He.ga K "Search") "__init__") fd := F
  rw [fdA_eq F]
  exact F
theorem Txt.b_Search_init (T : Txt K mg) : Binds K (fdA K (He.ma K (He.ga K "Search") "__init__")) ["self", "machine", "piece"] [] := T.f_Search_init.bindsN fun _ _ _ _ _ _ us hl => match us, hl with | [_, _, _], _ => rfl
theorem Txt.f_Search_place (T : Txt K mg) : FunD K "place" "Search.place" (defArgs st_Search_place) (defBody st_Search_place) (defScope st_Search_place) [] [] (He.ma K (He.ga K "Search") "place") (fdA K (He.ma K (He.ga K "Search") "place")) := by
  obtain ⟨fd, F⟩ := T.1.1.def_ 17 (d := d_Search_place) rfl
  have F : FunD K "place" "Search.place" (defArgs st_Search_place) (defBody st_Search_place) (defScope st_Search_place) [] [] (He.ma K (He.ga K "Search") "place") fd := F
  rw [fdA_eq F]
  exact F
theorem Txt.b_Search_place (T : Txt K mg) : Binds K (fdA K (He.ma K (He.ga K "Search") "place")) ["self", "sketch", "origin"] [] := T.f_Search_place.bindsN fun _ _ _ _ _ _ us hl => match us, hl with | [_, _, _], _ => rfl
theorem Txt.f_Search_places (T : Txt K mg) : FunD K "places" "Search.places" (defArgs st_Search_places) (defBody st_Search_places) (defScope st_Search_places) [] [] (He.ma K (He.ga K "Search") "places") (fdA K (He.ma K (He.ga K "Search") "places")) := by
  obtain ⟨fd, F⟩ := T.1.1.def_ 18 (d := d_Search_places) rfl
  have F : FunD K "places" "Search.places" (defArgs st_Search_places) (defBody st_Search_places) (defScope st_Search_places) [] [] (He.ma K (He.ga K "Search") "places") fd := F
  rw [fdA_eq F]
  exact F
theorem Txt.b_Search_places (T : Txt K mg) : Binds K (fdA K (He.ma K (He.ga K "Search") "places")) ["self", "sketch", "origin"] [] := T.f_Search_places.bindsN fun _ _ _ _ _ _ us hl => match us, hl with | [_, _, _], _ => rfl
theorem Txt.f_Search_row (T : Txt K mg) : FunD K "row" "Search.row" (defArgs st_Search_row) (defBody st_Search_row) (defScope st_Search_row) [] [] (He.ma K (He.ga K "Search") "row") (fdA K (He.ma K (He.ga K "Search") "row")) := by
  obtain ⟨fd, F⟩ := T.1.1.def_ 19 (d := d_Search_row) rfl
  have F : FunD K "row" "Search.row" (defArgs st_Search_row) (defBody st_Search_row) (defScope st_Search_row) [] [] (He.ma K (He.ga K "Search") "row") fd := F
  rw [fdA_eq F]
  exact F
theorem Txt.b_Search_row (T : Txt K mg) : Binds K (fdA K (He.ma K (He.ga K "Search") "row")) ["self", "number"] [] := T.f_Search_row.bindsN fun _ _ _ _ _ _ us hl => match us, hl with | [_, _], _ => rfl
theorem Txt.f_Search_history (T : Txt K mg) : FunD K "history" "Search.history" (defArgs st_Search_history) (defBody st_Search_history) (defScope st_Search_history) [] [] (He.ma K (He.ga K "Search") "history") (fdA K (He.ma K (He.ga K "Search") "history")) := by
  obtain ⟨fd, F⟩ := T.1.1.def_ 20 (d := d_Search_history) rfl
  have F : FunD K "history" "Search.history" (defArgs st_Search_history) (defBody st_Search_history) (defScope st_Search_history) [] [] (He.ma K (He.ga K "Search") "history") fd := F
  rw [fdA_eq F]
  exact F
theorem Txt.b_Search_history (T : Txt K mg) : Binds K (fdA K (He.ma K (He.ga K "Search") "history")) ["self"] [] := T.f_Search_history.bindsN fun _ _ _ _ _ _ us hl => match us, hl with | [_], _ => rfl
theorem Txt.f_BetweenPaper_init (T : Txt K mg) : FunD K "__init__" "BetweenPaper.__init__" (defArgs st_BetweenPaper_init) (defBody st_BetweenPaper_init) (defScope st_BetweenPaper_init) [] [] (He.ma K (He.ga K "BetweenPaper") "__init__") (fdA K (He.ma K (He.ga K "BetweenPaper") "__init__")) := by
  obtain ⟨fd, F⟩ := T.1.1.def_ 21 (d := d_BetweenPaper_init) rfl
  have F : FunD K "__init__" "BetweenPaper.__init__" (defArgs st_BetweenPaper_init) (defBody st_BetweenPaper_init) (defScope st_BetweenPaper_init) [] [] (He.ma K (He.ga K "BetweenPaper") "__init__") fd := F
  rw [fdA_eq F]
  exact F
theorem Txt.b_BetweenPaper_init (T : Txt K mg) : Binds K (fdA K (He.ma K (He.ga K "BetweenPaper") "__init__")) ["self", "sketches", "cover", "table", "links", "roots", "steps"] [] := T.f_BetweenPaper_init.bindsN fun _ _ _ _ _ _ us hl => match us, hl with | [_, _, _, _, _, _, _], _ => rfl
theorem Txt.f_BetweenAnswer_init (T : Txt K mg) : FunD K "__init__" "BetweenAnswer.__init__" (defArgs st_BetweenAnswer_init) (defBody st_BetweenAnswer_init) (defScope st_BetweenAnswer_init) [] [] (He.ma K (He.ga K "BetweenAnswer") "__init__") (fdA K (He.ma K (He.ga K "BetweenAnswer") "__init__")) := by
  obtain ⟨fd, F⟩ := T.1.1.def_ 22 (d := d_BetweenAnswer_init) rfl
  have F : FunD K "__init__" "BetweenAnswer.__init__" (defArgs st_BetweenAnswer_init) (defBody st_BetweenAnswer_init) (defScope st_BetweenAnswer_init) [] [] (He.ma K (He.ga K "BetweenAnswer") "__init__") fd := F
  rw [fdA_eq F]
  exact F
theorem Txt.b_BetweenAnswer_init (T : Txt K mg) : Binds K (fdA K (He.ma K (He.ga K "BetweenAnswer") "__init__")) ["self", "told", "paper", "disk", "deeds", "moment"] [] := T.f_BetweenAnswer_init.bindsN fun _ _ _ _ _ _ us hl => match us, hl with | [_, _, _, _, _, _], _ => rfl
theorem Txt.f__check_questions (T : Txt K mg) : FunD K "_check_questions" "_check_questions" (defArgs st__check_questions) (defBody st__check_questions) (defScope st__check_questions) [] [] (He.ga K "_check_questions") (fdA K (He.ga K "_check_questions")) := by
  obtain ⟨fd, F⟩ := T.1.1.def_ 23 (d := d__check_questions) rfl
  have F : FunD K "_check_questions" "_check_questions" (defArgs st__check_questions) (defBody st__check_questions) (defScope st__check_questions) [] [] (He.ga K "_check_questions") fd := F
  rw [fdA_eq F]
  exact F
theorem Txt.b__check_questions (T : Txt K mg) : Binds K (fdA K (He.ga K "_check_questions")) ["machine", "earlier", "later", "piece"] [] := T.f__check_questions.bindsN fun _ _ _ _ _ _ us hl => match us, hl with | [_, _, _, _], _ => rfl
theorem Txt.f__closed_rows (T : Txt K mg) : FunD K "_closed_rows" "_closed_rows" (defArgs st__closed_rows) (defBody st__closed_rows) (defScope st__closed_rows) [] [] (He.ga K "_closed_rows") (fdA K (He.ga K "_closed_rows")) := by
  obtain ⟨fd, F⟩ := T.1.1.def_ 24 (d := d__closed_rows) rfl
  have F : FunD K "_closed_rows" "_closed_rows" (defArgs st__closed_rows) (defBody st__closed_rows) (defScope st__closed_rows) [] [] (He.ga K "_closed_rows") fd := F
  rw [fdA_eq F]
  exact F
theorem Txt.b__closed_rows (T : Txt K mg) : Binds K (fdA K (He.ga K "_closed_rows")) ["search"] [] := T.f__closed_rows.bindsN fun _ _ _ _ _ _ us hl => match us, hl with | [_], _ => rfl
theorem Txt.f__way (T : Txt K mg) : FunD K "_way" "_way" (defArgs st__way) (defBody st__way) (defScope st__way) [] [] (He.ga K "_way") (fdA K (He.ga K "_way")) := by
  obtain ⟨fd, F⟩ := T.1.1.def_ 25 (d := d__way) rfl
  have F : FunD K "_way" "_way" (defArgs st__way) (defBody st__way) (defScope st__way) [] [] (He.ga K "_way") fd := F
  rw [fdA_eq F]
  exact F
theorem Txt.b__way (T : Txt K mg) : Binds K (fdA K (He.ga K "_way")) ["search", "number"] [] := T.f__way.bindsN fun _ _ _ _ _ _ us hl => match us, hl with | [_, _], _ => rfl
theorem Txt.f__start (T : Txt K mg) : FunD K "_start" "_start" (defArgs st__start) (defBody st__start) (defScope st__start) [] [] (He.ga K "_start") (fdA K (He.ga K "_start")) := by
  obtain ⟨fd, F⟩ := T.1.1.def_ 26 (d := d__start) rfl
  have F : FunD K "_start" "_start" (defArgs st__start) (defBody st__start) (defScope st__start) [] [] (He.ga K "_start") fd := F
  rw [fdA_eq F]
  exact F
theorem Txt.b__start (T : Txt K mg) : Binds K (fdA K (He.ga K "_start")) ["search", "number"] [] := T.f__start.bindsN fun _ _ _ _ _ _ us hl => match us, hl with | [_, _], _ => rfl
theorem Txt.f_tell_between (T : Txt K mg) : FunD K "tell_between" "tell_between" (defArgs st_tell_between) (defBody st_tell_between) (defScope st_tell_between) [] [] (He.ga K "tell_between") (fdA K (He.ga K "tell_between")) := by
  obtain ⟨fd, F⟩ := T.1.1.def_ 27 (d := d_tell_between) rfl
  have F : FunD K "tell_between" "tell_between" (defArgs st_tell_between) (defBody st_tell_between) (defScope st_tell_between) [] [] (He.ga K "tell_between") fd := F
  rw [fdA_eq F]
  exact F
theorem Txt.b_tell_between (T : Txt K mg) : Binds K (fdA K (He.ga K "tell_between")) ["machine", "earlier", "later", "piece"] [] := T.f_tell_between.bindsN fun _ _ _ _ _ _ us hl => match us, hl with | [_, _, _, _], _ => rfl
theorem Txt.f__law_cell (T : Txt K mg) : FunD K "_law_cell" "_law_cell" (defArgs st__law_cell) (defBody st__law_cell) (defScope st__law_cell) [] [] (He.ga K "_law_cell") (fdA K (He.ga K "_law_cell")) := by
  obtain ⟨fd, F⟩ := T.1.1.def_ 28 (d := d__law_cell) rfl
  have F : FunD K "_law_cell" "_law_cell" (defArgs st__law_cell) (defBody st__law_cell) (defScope st__law_cell) [] [] (He.ga K "_law_cell") fd := F
  rw [fdA_eq F]
  exact F
theorem Txt.b__law_cell (T : Txt K mg) : Binds K (fdA K (He.ga K "_law_cell")) ["_law_script", "_law_k"] [] := T.f__law_cell.bindsN fun _ _ _ _ _ _ us hl => match us, hl with | [_, _], _ => rfl
theorem Txt.f__law_mix (T : Txt K mg) : FunD K "_law_mix" "_law_mix" (defArgs st__law_mix) (defBody st__law_mix) (defScope st__law_mix) [] [] (He.ga K "_law_mix") (fdA K (He.ga K "_law_mix")) := by
  obtain ⟨fd, F⟩ := T.1.1.def_ 29 (d := d__law_mix) rfl
  have F : FunD K "_law_mix" "_law_mix" (defArgs st__law_mix) (defBody st__law_mix) (defScope st__law_mix) [] [] (He.ga K "_law_mix") fd := F
  rw [fdA_eq F]
  exact F
theorem Txt.b__law_mix (T : Txt K mg) : Binds K (fdA K (He.ga K "_law_mix")) ["_law_cell_here", "_law_k"] [] := T.f__law_mix.bindsN fun _ _ _ _ _ _ us hl => match us, hl with | [_, _], _ => rfl
theorem Txt.f__law_is_int (T : Txt K mg) : FunD K "_law_is_int" "_law_is_int" (defArgs st__law_is_int) (defBody st__law_is_int) (defScope st__law_is_int) [] [] (He.ga K "_law_is_int") (fdA K (He.ga K "_law_is_int")) := by
  obtain ⟨fd, F⟩ := T.1.1.def_ 30 (d := d__law_is_int) rfl
  have F : FunD K "_law_is_int" "_law_is_int" (defArgs st__law_is_int) (defBody st__law_is_int) (defScope st__law_is_int) [] [] (He.ga K "_law_is_int") fd := F
  rw [fdA_eq F]
  exact F
theorem Txt.b__law_is_int (T : Txt K mg) : Binds K (fdA K (He.ga K "_law_is_int")) ["_law_value"] [] := T.f__law_is_int.bindsN fun _ _ _ _ _ _ us hl => match us, hl with | [_], _ => rfl
theorem Txt.f__law_mask (T : Txt K mg) : FunD K "_law_mask" "_law_mask" (defArgs st__law_mask) (defBody st__law_mask) (defScope st__law_mask) [] [] (He.ga K "_law_mask") (fdA K (He.ga K "_law_mask")) := by
  obtain ⟨fd, F⟩ := T.1.1.def_ 31 (d := d__law_mask) rfl
  have F : FunD K "_law_mask" "_law_mask" (defArgs st__law_mask) (defBody st__law_mask) (defScope st__law_mask) [] [] (He.ga K "_law_mask") fd := F
  rw [fdA_eq F]
  exact F
theorem Txt.b__law_mask (T : Txt K mg) : Binds K (fdA K (He.ga K "_law_mask")) ["_law_number", "_law_size"] [] := T.f__law_mask.bindsN fun _ _ _ _ _ _ us hl => match us, hl with | [_, _], _ => rfl
theorem Txt.f__law_deed (T : Txt K mg) : FunD K "_law_deed" "_law_deed" (defArgs st__law_deed) (defBody st__law_deed) (defScope st__law_deed) [] [] (He.ga K "_law_deed") (fdA K (He.ga K "_law_deed")) := by
  obtain ⟨fd, F⟩ := T.1.1.def_ 32 (d := d__law_deed) rfl
  have F : FunD K "_law_deed" "_law_deed" (defArgs st__law_deed) (defBody st__law_deed) (defScope st__law_deed) [] [] (He.ga K "_law_deed") fd := F
  rw [fdA_eq F]
  exact F
theorem Txt.b__law_deed (T : Txt K mg) : Binds K (fdA K (He.ga K "_law_deed")) ["_law_cell_here", "_law_sizes", "_law_number"] [] := T.f__law_deed.bindsN fun _ _ _ _ _ _ us hl => match us, hl with | [_, _, _], _ => rfl
theorem Txt.f__law_parts (T : Txt K mg) : FunD K "_law_parts" "_law_parts" (defArgs st__law_parts) (defBody st__law_parts) (defScope st__law_parts) [] [] (He.ga K "_law_parts") (fdA K (He.ga K "_law_parts")) := by
  obtain ⟨fd, F⟩ := T.1.1.def_ 33 (d := d__law_parts) rfl
  have F : FunD K "_law_parts" "_law_parts" (defArgs st__law_parts) (defBody st__law_parts) (defScope st__law_parts) [] [] (He.ga K "_law_parts") fd := F
  rw [fdA_eq F]
  exact F
theorem Txt.b__law_parts (T : Txt K mg) : Binds K (fdA K (He.ga K "_law_parts")) ["_law_script", "_law_first", "_law_most"] [] := T.f__law_parts.bindsN fun _ _ _ _ _ _ us hl => match us, hl with | [_, _, _], _ => rfl
theorem Txt.f__law_sketch (T : Txt K mg) : FunD K "_law_sketch" "_law_sketch" (defArgs st__law_sketch) (defBody st__law_sketch) (defScope st__law_sketch) [] [] (He.ga K "_law_sketch") (fdA K (He.ga K "_law_sketch")) := by
  obtain ⟨fd, F⟩ := T.1.1.def_ 34 (d := d__law_sketch) rfl
  have F : FunD K "_law_sketch" "_law_sketch" (defArgs st__law_sketch) (defBody st__law_sketch) (defScope st__law_sketch) [] [] (He.ga K "_law_sketch") fd := F
  rw [fdA_eq F]
  exact F
theorem Txt.b__law_sketch (T : Txt K mg) : Binds K (fdA K (He.ga K "_law_sketch")) ["_law_cell_here", "_law_sizes"] [] := T.f__law_sketch.bindsN fun _ _ _ _ _ _ us hl => match us, hl with | [_, _], _ => rfl
theorem Txt.f__law_piece (T : Txt K mg) : FunD K "_law_piece" "_law_piece" (defArgs st__law_piece) (defBody st__law_piece) (defScope st__law_piece) [] [] (He.ga K "_law_piece") (fdA K (He.ga K "_law_piece")) := by
  obtain ⟨fd, F⟩ := T.1.1.def_ 35 (d := d__law_piece) rfl
  have F : FunD K "_law_piece" "_law_piece" (defArgs st__law_piece) (defBody st__law_piece) (defScope st__law_piece) [] [] (He.ga K "_law_piece") fd := F
  rw [fdA_eq F]
  exact F
theorem Txt.b__law_piece (T : Txt K mg) : Binds K (fdA K (He.ga K "_law_piece")) ["_law_cell_here", "_law_sizes"] [] := T.f__law_piece.bindsN fun _ _ _ _ _ _ us hl => match us, hl with | [_, _], _ => rfl
theorem Txt.f__law_in (T : Txt K mg) : FunD K "_law_in" "_law_in" (defArgs st__law_in) (defBody st__law_in) (defScope st__law_in) [] [] (He.ga K "_law_in") (fdA K (He.ga K "_law_in")) := by
  obtain ⟨fd, F⟩ := T.1.1.def_ 36 (d := d__law_in) rfl
  have F : FunD K "_law_in" "_law_in" (defArgs st__law_in) (defBody st__law_in) (defScope st__law_in) [] [] (He.ga K "_law_in") fd := F
  rw [fdA_eq F]
  exact F
theorem Txt.b__law_in (T : Txt K mg) : Binds K (fdA K (He.ga K "_law_in")) ["_law_sketch_here", "_law_disk"] [] := T.f__law_in.bindsN fun _ _ _ _ _ _ us hl => match us, hl with | [_, _], _ => rfl
theorem Txt.f__law_has (T : Txt K mg) : FunD K "_law_has" "_law_has" (defArgs st__law_has) (defBody st__law_has) (defScope st__law_has) [] [] (He.ga K "_law_has") (fdA K (He.ga K "_law_has")) := by
  obtain ⟨fd, F⟩ := T.1.1.def_ 37 (d := d__law_has) rfl
  have F : FunD K "_law_has" "_law_has" (defArgs st__law_has) (defBody st__law_has) (defScope st__law_has) [] [] (He.ga K "_law_has") fd := F
  rw [fdA_eq F]
  exact F
theorem Txt.b__law_has (T : Txt K mg) : Binds K (fdA K (He.ga K "_law_has")) ["_law_piece_here", "_law_disk"] [] := T.f__law_has.bindsN fun _ _ _ _ _ _ us hl => match us, hl with | [_, _], _ => rfl
theorem Txt.f__law_disks (T : Txt K mg) : FunD K "_law_disks" "_law_disks" (defArgs st__law_disks) (defBody st__law_disks) (defScope st__law_disks) [] [] (He.ga K "_law_disks") (fdA K (He.ga K "_law_disks")) := by
  obtain ⟨fd, F⟩ := T.1.1.def_ 38 (d := d__law_disks) rfl
  have F : FunD K "_law_disks" "_law_disks" (defArgs st__law_disks) (defBody st__law_disks) (defScope st__law_disks) [] [] (He.ga K "_law_disks") fd := F
  rw [fdA_eq F]
  exact F
theorem Txt.b__law_disks (T : Txt K mg) : Binds K (fdA K (He.ga K "_law_disks")) ["_law_sketch_here"] [] := T.f__law_disks.bindsN fun _ _ _ _ _ _ us hl => match us, hl with | [_], _ => rfl
theorem Txt.f__law_can (T : Txt K mg) : FunD K "_law_can" "_law_can" (defArgs st__law_can) (defBody st__law_can) (defScope st__law_can) [] [] (He.ga K "_law_can") (fdA K (He.ga K "_law_can")) := by
  obtain ⟨fd, F⟩ := T.1.1.def_ 39 (d := d__law_can) rfl
  have F : FunD K "_law_can" "_law_can" (defArgs st__law_can) (defBody st__law_can) (defScope st__law_can) [] [] (He.ga K "_law_can") fd := F
  rw [fdA_eq F]
  exact F
theorem Txt.b__law_can (T : Txt K mg) : Binds K (fdA K (He.ga K "_law_can")) ["_law_deeds", "_law_disk", "_law_deed_here"] [] := T.f__law_can.bindsN fun _ _ _ _ _ _ us hl => match us, hl with | [_, _, _], _ => rfl
theorem Txt.f__law_after (T : Txt K mg) : FunD K "_law_after" "_law_after" (defArgs st__law_after) (defBody st__law_after) (defScope st__law_after) [] [] (He.ga K "_law_after") (fdA K (He.ga K "_law_after")) := by
  obtain ⟨fd, F⟩ := T.1.1.def_ 40 (d := d__law_after) rfl
  have F : FunD K "_law_after" "_law_after" (defArgs st__law_after) (defBody st__law_after) (defScope st__law_after) [] [] (He.ga K "_law_after") fd := F
  rw [fdA_eq F]
  exact F
theorem Txt.b__law_after (T : Txt K mg) : Binds K (fdA K (He.ga K "_law_after")) ["_law_deeds", "_law_disk", "_law_deed_here"] [] := T.f__law_after.bindsN fun _ _ _ _ _ _ us hl => match us, hl with | [_, _, _], _ => rfl
theorem Txt.f__law_steps (T : Txt K mg) : FunD K "_law_steps" "_law_steps" (defArgs st__law_steps) (defBody st__law_steps) (defScope st__law_steps) [] [] (He.ga K "_law_steps") (fdA K (He.ga K "_law_steps")) := by
  obtain ⟨fd, F⟩ := T.1.1.def_ 41 (d := d__law_steps) rfl
  have F : FunD K "_law_steps" "_law_steps" (defArgs st__law_steps) (defBody st__law_steps) (defScope st__law_steps) [] [] (He.ga K "_law_steps") fd := F
  rw [fdA_eq F]
  exact F
theorem Txt.b__law_steps (T : Txt K mg) : Binds K (fdA K (He.ga K "_law_steps")) ["_law_deeds", "_law_first", "_law_piece_here"] [] := T.f__law_steps.bindsN fun _ _ _ _ _ _ us hl => match us, hl with | [_, _, _], _ => rfl
theorem Txt.f__law_meet (T : Txt K mg) : FunD K "_law_meet" "_law_meet" (defArgs st__law_meet) (defBody st__law_meet) (defScope st__law_meet) [] [] (He.ga K "_law_meet") (fdA K (He.ga K "_law_meet")) := by
  obtain ⟨fd, F⟩ := T.1.1.def_ 42 (d := d__law_meet) rfl
  have F : FunD K "_law_meet" "_law_meet" (defArgs st__law_meet) (defBody st__law_meet) (defScope st__law_meet) [] [] (He.ga K "_law_meet") fd := F
  rw [fdA_eq F]
  exact F
theorem Txt.b__law_meet (T : Txt K mg) : Binds K (fdA K (He.ga K "_law_meet")) ["_law_a", "_law_b"] [] := T.f__law_meet.bindsN fun _ _ _ _ _ _ us hl => match us, hl with | [_, _], _ => rfl
theorem Txt.f__law_split (T : Txt K mg) : FunD K "_law_split" "_law_split" (defArgs st__law_split) (defBody st__law_split) (defScope st__law_split) [] [] (He.ga K "_law_split") (fdA K (He.ga K "_law_split")) := by
  obtain ⟨fd, F⟩ := T.1.1.def_ 43 (d := d__law_split) rfl
  have F : FunD K "_law_split" "_law_split" (defArgs st__law_split) (defBody st__law_split) (defScope st__law_split) [] [] (He.ga K "_law_split") fd := F
  rw [fdA_eq F]
  exact F
theorem Txt.b__law_split (T : Txt K mg) : Binds K (fdA K (He.ga K "_law_split")) ["_law_a", "_law_b"] [] := T.f__law_split.bindsN fun _ _ _ _ _ _ us hl => match us, hl with | [_, _], _ => rfl
theorem Txt.f__law_without (T : Txt K mg) : FunD K "_law_without" "_law_without" (defArgs st__law_without) (defBody st__law_without) (defScope st__law_without) [] [] (He.ga K "_law_without") (fdA K (He.ga K "_law_without")) := by
  obtain ⟨fd, F⟩ := T.1.1.def_ 44 (d := d__law_without) rfl
  have F : FunD K "_law_without" "_law_without" (defArgs st__law_without) (defBody st__law_without) (defScope st__law_without) [] [] (He.ga K "_law_without") fd := F
  rw [fdA_eq F]
  exact F
theorem Txt.b__law_without (T : Txt K mg) : Binds K (fdA K (He.ga K "_law_without")) ["_law_a", "_law_piece_here"] [] := T.f__law_without.bindsN fun _ _ _ _ _ _ us hl => match us, hl with | [_, _], _ => rfl
theorem Txt.f__law_before (T : Txt K mg) : FunD K "_law_before" "_law_before" (defArgs st__law_before) (defBody st__law_before) (defScope st__law_before) [] [] (He.ga K "_law_before") (fdA K (He.ga K "_law_before")) := by
  obtain ⟨fd, F⟩ := T.1.1.def_ 45 (d := d__law_before) rfl
  have F : FunD K "_law_before" "_law_before" (defArgs st__law_before) (defBody st__law_before) (defScope st__law_before) [] [] (He.ga K "_law_before") fd := F
  rw [fdA_eq F]
  exact F
theorem Txt.b__law_before (T : Txt K mg) : Binds K (fdA K (He.ga K "_law_before")) ["_law_deeds", "_law_sizes", "_law_sketch_here", "_law_deed_here"] [] := T.f__law_before.bindsN fun _ _ _ _ _ _ us hl => match us, hl with | [_, _, _, _], _ => rfl
theorem Txt.f__law_included (T : Txt K mg) : FunD K "_law_included" "_law_included" (defArgs st__law_included) (defBody st__law_included) (defScope st__law_included) [] [] (He.ga K "_law_included") (fdA K (He.ga K "_law_included")) := by
  obtain ⟨fd, F⟩ := T.1.1.def_ 46 (d := d__law_included) rfl
  have F : FunD K "_law_included" "_law_included" (defArgs st__law_included) (defBody st__law_included) (defScope st__law_included) [] [] (He.ga K "_law_included") fd := F
  rw [fdA_eq F]
  exact F
theorem Txt.b__law_included (T : Txt K mg) : Binds K (fdA K (He.ga K "_law_included")) ["_law_a", "_law_b"] [] := T.f__law_included.bindsN fun _ _ _ _ _ _ us hl => match us, hl with | [_, _], _ => rfl
theorem Txt.f__law_covers (T : Txt K mg) : FunD K "_law_covers" "_law_covers" (defArgs st__law_covers) (defBody st__law_covers) (defScope st__law_covers) [] [] (He.ga K "_law_covers") (fdA K (He.ga K "_law_covers")) := by
  obtain ⟨fd, F⟩ := T.1.1.def_ 47 (d := d__law_covers) rfl
  have F : FunD K "_law_covers" "_law_covers" (defArgs st__law_covers) (defBody st__law_covers) (defScope st__law_covers) [] [] (He.ga K "_law_covers") fd := F
  rw [fdA_eq F]
  exact F
theorem Txt.b__law_covers (T : Txt K mg) : Binds K (fdA K (He.ga K "_law_covers")) ["_law_sketches", "_law_entry", "_law_parts_here"] [] := T.f__law_covers.bindsN fun _ _ _ _ _ _ us hl => match us, hl with | [_, _, _], _ => rfl
theorem Txt.f__law_are_sketches (T : Txt K mg) : FunD K "_law_are_sketches" "_law_are_sketches" (defArgs st__law_are_sketches) (defBody st__law_are_sketches) (defScope st__law_are_sketches) [] [] (He.ga K "_law_are_sketches") (fdA K (He.ga K "_law_are_sketches")) := by
  obtain ⟨fd, F⟩ := T.1.1.def_ 48 (d := d__law_are_sketches) rfl
  have F : FunD K "_law_are_sketches" "_law_are_sketches" (defArgs st__law_are_sketches) (defBody st__law_are_sketches) (defScope st__law_are_sketches) [] [] (He.ga K "_law_are_sketches") fd := F
  rw [fdA_eq F]
  exact F
theorem Txt.b__law_are_sketches (T : Txt K mg) : Binds K (fdA K (He.ga K "_law_are_sketches")) ["_law_sketches", "_law_sizes"] [] := T.f__law_are_sketches.bindsN fun _ _ _ _ _ _ us hl => match us, hl with | [_, _], _ => rfl
theorem Txt.f__law_is_closed (T : Txt K mg) : FunD K "_law_is_closed" "_law_is_closed" (defArgs st__law_is_closed) (defBody st__law_is_closed) (defScope st__law_is_closed) [] [] (He.ga K "_law_is_closed") (fdA K (He.ga K "_law_is_closed")) := by
  obtain ⟨fd, F⟩ := T.1.1.def_ 49 (d := d__law_is_closed) rfl
  have F : FunD K "_law_is_closed" "_law_is_closed" (defArgs st__law_is_closed) (defBody st__law_is_closed) (defScope st__law_is_closed) [] [] (He.ga K "_law_is_closed") fd := F
  rw [fdA_eq F]
  exact F
theorem Txt.b__law_is_closed (T : Txt K mg) : Binds K (fdA K (He.ga K "_law_is_closed")) ["_law_deeds", "_law_sizes", "_law_sketches", "_law_table", "_law_piece_here"] [] := T.f__law_is_closed.bindsN fun _ _ _ _ _ _ us hl => match us, hl with | [_, _, _, _, _], _ => rfl
theorem Txt.f__law_is_history (T : Txt K mg) : FunD K "_law_is_history" "_law_is_history" (defArgs st__law_is_history) (defBody st__law_is_history) (defScope st__law_is_history) [] [] (He.ga K "_law_is_history") (fdA K (He.ga K "_law_is_history")) := by
  obtain ⟨fd, F⟩ := T.1.1.def_ 50 (d := d__law_is_history) rfl
  have F : FunD K "_law_is_history" "_law_is_history" (defArgs st__law_is_history) (defBody st__law_is_history) (defScope st__law_is_history) [] [] (He.ga K "_law_is_history") fd := F
  rw [fdA_eq F]
  exact F
theorem Txt.b__law_is_history (T : Txt K mg) : Binds K (fdA K (He.ga K "_law_is_history")) ["_law_deeds", "_law_first", "_law_image", "_law_piece_here", "_law_disk", "_law_numbers"] [] := T.f__law_is_history.bindsN fun _ _ _ _ _ _ us hl => match us, hl with | [_, _, _, _, _, _], _ => rfl
theorem Txt.f__law_is_between (T : Txt K mg) : FunD K "_law_is_between" "_law_is_between" (defArgs st__law_is_between) (defBody st__law_is_between) (defScope st__law_is_between) [] [] (He.ga K "_law_is_between") (fdA K (He.ga K "_law_is_between")) := by
  obtain ⟨fd, F⟩ := T.1.1.def_ 51 (d := d__law_is_between) rfl
  have F : FunD K "_law_is_between" "_law_is_between" (defArgs st__law_is_between) (defBody st__law_is_between) (defScope st__law_is_between) [] [] (He.ga K "_law_is_between") fd := F
  rw [fdA_eq F]
  exact F
theorem Txt.b__law_is_between (T : Txt K mg) : Binds K (fdA K (He.ga K "_law_is_between")) ["_law_deeds", "_law_sizes", "_law_first", "_law_earlier", "_law_later", "_law_piece_here", "_law_paper"] [] := T.f__law_is_between.bindsN fun _ _ _ _ _ _ us hl => match us, hl with | [_, _, _, _, _, _, _], _ => rfl
theorem Txt.f__law_is_missing (T : Txt K mg) : FunD K "_law_is_missing" "_law_is_missing" (defArgs st__law_is_missing) (defBody st__law_is_missing) (defScope st__law_is_missing) [] [] (He.ga K "_law_is_missing") (fdA K (He.ga K "_law_is_missing")) := by
  obtain ⟨fd, F⟩ := T.1.1.def_ 52 (d := d__law_is_missing) rfl
  have F : FunD K "_law_is_missing" "_law_is_missing" (defArgs st__law_is_missing) (defBody st__law_is_missing) (defScope st__law_is_missing) [] [] (He.ga K "_law_is_missing") fd := F
  rw [fdA_eq F]
  exact F
theorem Txt.b__law_is_missing (T : Txt K mg) : Binds K (fdA K (He.ga K "_law_is_missing")) ["_law_deeds", "_law_first", "_law_earlier", "_law_later", "_law_piece_here"] [] := T.f__law_is_missing.bindsN fun _ _ _ _ _ _ us hl => match us, hl with | [_, _, _, _, _], _ => rfl
theorem Txt.f_law (T : Txt K mg) : FunD K "law" "law" (defArgs st_law) (defBody st_law) (defScope st_law) [] [] (He.ga K "law") (fdA K (He.ga K "law")) := by
  obtain ⟨fd, F⟩ := T.1.1.def_ 53 (d := d_law) rfl
  have F : FunD K "law" "law" (defArgs st_law) (defBody st_law) (defScope st_law) [] [] (He.ga K "law") fd := F
  rw [fdA_eq F]
  exact F
theorem Txt.b_law (T : Txt K mg) : Binds K (fdA K (He.ga K "law")) ["_law_script"] [] := T.f_law.bindsN fun _ _ _ _ _ _ us hl => match us, hl with | [_], _ => rfl
theorem Txt.p_Machine_full (T : Txt K mg) : PropOf K (He.ga K "Machine") "full" (fullP K) (fullA K) := T.1.2.prop
end
/-! what a def promises: at its place, of its level -/
abbrev Ok_is_name (P : Program) (w : World) (K : PySem.W.Frag) (mg : Str → Option Value) (base : Heap) (sp : Sp) : Prop := FnOk P w K mg base CX0 1 (He.ga K "is_name") (fdA K (He.ga K "is_name")) ["text"] sp
abbrev Ok__check_names (P : Program) (w : World) (K : PySem.W.Frag) (mg : Str → Option Value) (base : Heap) (sp : Sp) : Prop := FnOk P w K mg base CX0 2 (He.ga K "_check_names") (fdA K (He.ga K "_check_names")) ["names"] sp
abbrev Ok_is_mask (P : Program) (w : World) (K : PySem.W.Frag) (mg : Str → Option Value) (base : Heap) (sp : Sp) : Prop := FnOk P w K mg base CX0 1 (He.ga K "is_mask") (fdA K (He.ga K "is_mask")) ["mask", "size"] sp
abbrev Ok__check_order (P : Program) (w : World) (K : PySem.W.Frag) (mg : Str → Option Value) (base : Heap) (sp : Sp) : Prop := FnOk P w K mg base CX0 1 (He.ga K "_check_order") (fdA K (He.ga K "_check_order")) ["pairs", "count"] sp
abbrev Ok_Machine_init (P : Program) (w : World) (K : PySem.W.Frag) (mg : Str → Option Value) (base : Heap) (sp : Sp) : Prop := FnOk P w K mg base CX0 3 (He.ma K (He.ga K "Machine") "__init__") (fdA K (He.ma K (He.ga K "Machine") "__init__")) ["self", "cells", "deeds", "first"] sp
abbrev Ok_Machine__check_deed (P : Program) (w : World) (K : PySem.W.Frag) (mg : Str → Option Value) (base : Heap) (sp : Sp) : Prop := FnOk P w K mg base CX0 2 (He.ma K (He.ga K "Machine") "_check_deed") (fdA K (He.ma K (He.ga K "Machine") "_check_deed")) ["self", "sizes", "guard", "changes"] sp
abbrev Ok_Machine_full (P : Program) (w : World) (K : PySem.W.Frag) (mg : Str → Option Value) (base : Heap) (sp : Sp) : Prop := FnOk P w K mg base CX0 1 (fullA K) (fdA K (fullA K)) ["self"] sp
abbrev Ok_check_sketch (P : Program) (w : World) (K : PySem.W.Frag) (mg : Str → Option Value) (base : Heap) (sp : Sp) : Prop := FnOk P w K mg base CX0 2 (He.ga K "check_sketch") (fdA K (He.ga K "check_sketch")) ["machine", "sketch"] sp
abbrev Ok_sketch_before (P : Program) (w : World) (K : PySem.W.Frag) (mg : Str → Option Value) (base : Heap) (sp : Sp) : Prop := FnOk P w K mg base CX0 3 (He.ga K "sketch_before") (fdA K (He.ga K "sketch_before")) ["machine", "sketch", "deed"] sp
abbrev Ok_meet (P : Program) (w : World) (K : PySem.W.Frag) (mg : Str → Option Value) (base : Heap) (sp : Sp) : Prop := FnOk P w K mg base CX0 1 (He.ga K "meet") (fdA K (He.ga K "meet")) ["a", "b"] sp
abbrev Ok__split (P : Program) (w : World) (K : PySem.W.Frag) (mg : Str → Option Value) (base : Heap) (sp : Sp) : Prop := FnOk P w K mg base CX0 2 (He.ga K "_split") (fdA K (He.ga K "_split")) ["a", "b"] sp
abbrev Ok_without (P : Program) (w : World) (K : PySem.W.Frag) (mg : Str → Option Value) (base : Heap) (sp : Sp) : Prop := FnOk P w K mg base CX0 3 (He.ga K "without") (fdA K (He.ga K "without")) ["a", "piece"] sp
abbrev Ok_values_of (P : Program) (w : World) (K : PySem.W.Frag) (mg : Str → Option Value) (base : Heap) (sp : Sp) : Prop := FnOk P w K mg base CX0 1 (He.ga K "values_of") (fdA K (He.ga K "values_of")) ["mask"] sp
abbrev Ok_least_disk (P : Program) (w : World) (K : PySem.W.Frag) (mg : Str → Option Value) (base : Heap) (sp : Sp) : Prop := FnOk P w K mg base CX0 2 (He.ga K "least_disk") (fdA K (He.ga K "least_disk")) ["sketch"] sp
abbrev Ok_Paper_init (P : Program) (w : World) (K : PySem.W.Frag) (mg : Str → Option Value) (base : Heap) (sp : Sp) : Prop := FnOk P w K mg base CX0 1 (He.ma K (He.ga K "Paper") "__init__") (fdA K (He.ma K (He.ga K "Paper") "__init__")) ["self", "sketches", "cover", "table"] sp
abbrev Ok_check_question (P : Program) (w : World) (K : PySem.W.Frag) (mg : Str → Option Value) (base : Heap) (sp : Sp) : Prop := FnOk P w K mg base CX0 3 (He.ga K "check_question") (fdA K (He.ga K "check_question")) ["machine", "image", "piece"] sp
abbrev Ok_packed_sketch (P : Program) (w : World) (K : PySem.W.Frag) (mg : Str → Option Value) (base : Heap) (sp : Sp) : Prop := FnOk P w K mg base CX0 1 (He.ga K "packed_sketch") (fdA K (He.ga K "packed_sketch")) ["sketch"] sp
abbrev Ok_Search_init (P : Program) (w : World) (K : PySem.W.Frag) (mg : Str → Option Value) (base : Heap) (sp : Sp) : Prop := FnOk P w K mg base CX0 1 (He.ma K (He.ga K "Search") "__init__") (fdA K (He.ma K (He.ga K "Search") "__init__")) ["self", "machine", "piece"] sp
abbrev Ok_Search_place (P : Program) (w : World) (K : PySem.W.Frag) (mg : Str → Option Value) (base : Heap) (sp : Sp) : Prop := FnOk P w K mg base CX0 2 (He.ma K (He.ga K "Search") "place") (fdA K (He.ma K (He.ga K "Search") "place")) ["self", "sketch", "origin"] sp
abbrev Ok_Search_places (P : Program) (w : World) (K : PySem.W.Frag) (mg : Str → Option Value) (base : Heap) (sp : Sp) : Prop := FnOk P w K mg base CX0 4 (He.ma K (He.ga K "Search") "places") (fdA K (He.ma K (He.ga K "Search") "places")) ["self", "sketch", "origin"] sp
abbrev Ok_Search_row (P : Program) (w : World) (K : PySem.W.Frag) (mg : Str → Option Value) (base : Heap) (sp : Sp) : Prop := FnOk P w K mg base CX0 5 (He.ma K (He.ga K "Search") "row") (fdA K (He.ma K (He.ga K "Search") "row")) ["self", "number"] sp
abbrev Ok_Search_history (P : Program) (w : World) (K : PySem.W.Frag) (mg : Str → Option Value) (base : Heap) (sp : Sp) : Prop := FnOk P w K mg base CX0 3 (He.ma K (He.ga K "Search") "history") (fdA K (He.ma K (He.ga K "Search") "history")) ["self"] sp
abbrev Ok_BetweenPaper_init (P : Program) (w : World) (K : PySem.W.Frag) (mg : Str → Option Value) (base : Heap) (sp : Sp) : Prop := FnOk P w K mg base CX0 3 (He.ma K (He.ga K "BetweenPaper") "__init__") (fdA K (He.ma K (He.ga K "BetweenPaper") "__init__")) ["self", "sketches", "cover", "table", "links", "roots", "steps"] sp
abbrev Ok_BetweenAnswer_init (P : Program) (w : World) (K : PySem.W.Frag) (mg : Str → Option Value) (base : Heap) (sp : Sp) : Prop := FnOk P w K mg base CX0 1 (He.ma K (He.ga K "BetweenAnswer") "__init__") (fdA K (He.ma K (He.ga K "BetweenAnswer") "__init__")) ["self", "told", "paper", "disk", "deeds", "moment"] sp
abbrev Ok__check_questions (P : Program) (w : World) (K : PySem.W.Frag) (mg : Str → Option Value) (base : Heap) (sp : Sp) : Prop := FnOk P w K mg base CX0 4 (He.ga K "_check_questions") (fdA K (He.ga K "_check_questions")) ["machine", "earlier", "later", "piece"] sp
abbrev Ok__closed_rows (P : Program) (w : World) (K : PySem.W.Frag) (mg : Str → Option Value) (base : Heap) (sp : Sp) : Prop := FnOk P w K mg base CX0 6 (He.ga K "_closed_rows") (fdA K (He.ga K "_closed_rows")) ["search"] sp
abbrev Ok__way (P : Program) (w : World) (K : PySem.W.Frag) (mg : Str → Option Value) (base : Heap) (sp : Sp) : Prop := FnOk P w K mg base CX0 1 (He.ga K "_way") (fdA K (He.ga K "_way")) ["search", "number"] sp
abbrev Ok__start (P : Program) (w : World) (K : PySem.W.Frag) (mg : Str → Option Value) (base : Heap) (sp : Sp) : Prop := FnOk P w K mg base CX0 1 (He.ga K "_start") (fdA K (He.ga K "_start")) ["search", "number"] sp
abbrev Ok_tell_between (P : Program) (w : World) (K : PySem.W.Frag) (mg : Str → Option Value) (base : Heap) (sp : Sp) : Prop := FnOk P w K mg base CX0 7 (He.ga K "tell_between") (fdA K (He.ga K "tell_between")) ["machine", "earlier", "later", "piece"] sp
abbrev Ok__law_cell (P : Program) (w : World) (K : PySem.W.Frag) (mg : Str → Option Value) (base : Heap) (sp : Sp) : Prop := FnOk P w K mg base CX0 1 (He.ga K "_law_cell") (fdA K (He.ga K "_law_cell")) ["_law_script", "_law_k"] sp
abbrev Ok__law_mix (P : Program) (w : World) (K : PySem.W.Frag) (mg : Str → Option Value) (base : Heap) (sp : Sp) : Prop := FnOk P w K mg base CX0 1 (He.ga K "_law_mix") (fdA K (He.ga K "_law_mix")) ["_law_cell_here", "_law_k"] sp
abbrev Ok__law_is_int (P : Program) (w : World) (K : PySem.W.Frag) (mg : Str → Option Value) (base : Heap) (sp : Sp) : Prop := FnOk P w K mg base CX0 1 (He.ga K "_law_is_int") (fdA K (He.ga K "_law_is_int")) ["_law_value"] sp
abbrev Ok__law_mask (P : Program) (w : World) (K : PySem.W.Frag) (mg : Str → Option Value) (base : Heap) (sp : Sp) : Prop := FnOk P w K mg base CX0 1 (He.ga K "_law_mask") (fdA K (He.ga K "_law_mask")) ["_law_number", "_law_size"] sp
abbrev Ok__law_deed (P : Program) (w : World) (K : PySem.W.Frag) (mg : Str → Option Value) (base : Heap) (sp : Sp) : Prop := FnOk P w K mg base CX0 2 (He.ga K "_law_deed") (fdA K (He.ga K "_law_deed")) ["_law_cell_here", "_law_sizes", "_law_number"] sp
abbrev Ok__law_parts (P : Program) (w : World) (K : PySem.W.Frag) (mg : Str → Option Value) (base : Heap) (sp : Sp) : Prop := FnOk P w K mg base CX0 3 (He.ga K "_law_parts") (fdA K (He.ga K "_law_parts")) ["_law_script", "_law_first", "_law_most"] sp
abbrev Ok__law_sketch (P : Program) (w : World) (K : PySem.W.Frag) (mg : Str → Option Value) (base : Heap) (sp : Sp) : Prop := FnOk P w K mg base CX0 2 (He.ga K "_law_sketch") (fdA K (He.ga K "_law_sketch")) ["_law_cell_here", "_law_sizes"] sp
abbrev Ok__law_piece (P : Program) (w : World) (K : PySem.W.Frag) (mg : Str → Option Value) (base : Heap) (sp : Sp) : Prop := FnOk P w K mg base CX0 3 (He.ga K "_law_piece") (fdA K (He.ga K "_law_piece")) ["_law_cell_here", "_law_sizes"] sp
abbrev Ok__law_in (P : Program) (w : World) (K : PySem.W.Frag) (mg : Str → Option Value) (base : Heap) (sp : Sp) : Prop := FnOk P w K mg base CX0 1 (He.ga K "_law_in") (fdA K (He.ga K "_law_in")) ["_law_sketch_here", "_law_disk"] sp
abbrev Ok__law_has (P : Program) (w : World) (K : PySem.W.Frag) (mg : Str → Option Value) (base : Heap) (sp : Sp) : Prop := FnOk P w K mg base CX0 2 (He.ga K "_law_has") (fdA K (He.ga K "_law_has")) ["_law_piece_here", "_law_disk"] sp
abbrev Ok__law_disks (P : Program) (w : World) (K : PySem.W.Frag) (mg : Str → Option Value) (base : Heap) (sp : Sp) : Prop := FnOk P w K mg base CX0 1 (He.ga K "_law_disks") (fdA K (He.ga K "_law_disks")) ["_law_sketch_here"] sp
abbrev Ok__law_can (P : Program) (w : World) (K : PySem.W.Frag) (mg : Str → Option Value) (base : Heap) (sp : Sp) : Prop := FnOk P w K mg base CX0 1 (He.ga K "_law_can") (fdA K (He.ga K "_law_can")) ["_law_deeds", "_law_disk", "_law_deed_here"] sp
abbrev Ok__law_after (P : Program) (w : World) (K : PySem.W.Frag) (mg : Str → Option Value) (base : Heap) (sp : Sp) : Prop := FnOk P w K mg base CX0 1 (He.ga K "_law_after") (fdA K (He.ga K "_law_after")) ["_law_deeds", "_law_disk", "_law_deed_here"] sp
abbrev Ok__law_steps (P : Program) (w : World) (K : PySem.W.Frag) (mg : Str → Option Value) (base : Heap) (sp : Sp) : Prop := FnOk P w K mg base CX0 3 (He.ga K "_law_steps") (fdA K (He.ga K "_law_steps")) ["_law_deeds", "_law_first", "_law_piece_here"] sp
abbrev Ok__law_meet (P : Program) (w : World) (K : PySem.W.Frag) (mg : Str → Option Value) (base : Heap) (sp : Sp) : Prop := FnOk P w K mg base CX0 1 (He.ga K "_law_meet") (fdA K (He.ga K "_law_meet")) ["_law_a", "_law_b"] sp
abbrev Ok__law_split (P : Program) (w : World) (K : PySem.W.Frag) (mg : Str → Option Value) (base : Heap) (sp : Sp) : Prop := FnOk P w K mg base CX0 2 (He.ga K "_law_split") (fdA K (He.ga K "_law_split")) ["_law_a", "_law_b"] sp
abbrev Ok__law_without (P : Program) (w : World) (K : PySem.W.Frag) (mg : Str → Option Value) (base : Heap) (sp : Sp) : Prop := FnOk P w K mg base CX0 3 (He.ga K "_law_without") (fdA K (He.ga K "_law_without")) ["_law_a", "_law_piece_here"] sp
abbrev Ok__law_before (P : Program) (w : World) (K : PySem.W.Frag) (mg : Str → Option Value) (base : Heap) (sp : Sp) : Prop := FnOk P w K mg base CX0 1 (He.ga K "_law_before") (fdA K (He.ga K "_law_before")) ["_law_deeds", "_law_sizes", "_law_sketch_here", "_law_deed_here"] sp
abbrev Ok__law_included (P : Program) (w : World) (K : PySem.W.Frag) (mg : Str → Option Value) (base : Heap) (sp : Sp) : Prop := FnOk P w K mg base CX0 1 (He.ga K "_law_included") (fdA K (He.ga K "_law_included")) ["_law_a", "_law_b"] sp
abbrev Ok__law_covers (P : Program) (w : World) (K : PySem.W.Frag) (mg : Str → Option Value) (base : Heap) (sp : Sp) : Prop := FnOk P w K mg base CX0 2 (He.ga K "_law_covers") (fdA K (He.ga K "_law_covers")) ["_law_sketches", "_law_entry", "_law_parts_here"] sp
abbrev Ok__law_are_sketches (P : Program) (w : World) (K : PySem.W.Frag) (mg : Str → Option Value) (base : Heap) (sp : Sp) : Prop := FnOk P w K mg base CX0 2 (He.ga K "_law_are_sketches") (fdA K (He.ga K "_law_are_sketches")) ["_law_sketches", "_law_sizes"] sp
abbrev Ok__law_is_closed (P : Program) (w : World) (K : PySem.W.Frag) (mg : Str → Option Value) (base : Heap) (sp : Sp) : Prop := FnOk P w K mg base CX0 4 (He.ga K "_law_is_closed") (fdA K (He.ga K "_law_is_closed")) ["_law_deeds", "_law_sizes", "_law_sketches", "_law_table", "_law_piece_here"] sp
abbrev Ok__law_is_history (P : Program) (w : World) (K : PySem.W.Frag) (mg : Str → Option Value) (base : Heap) (sp : Sp) : Prop := FnOk P w K mg base CX0 3 (He.ga K "_law_is_history") (fdA K (He.ga K "_law_is_history")) ["_law_deeds", "_law_first", "_law_image", "_law_piece_here", "_law_disk", "_law_numbers"] sp
abbrev Ok__law_is_between (P : Program) (w : World) (K : PySem.W.Frag) (mg : Str → Option Value) (base : Heap) (sp : Sp) : Prop := FnOk P w K mg base CX0 5 (He.ga K "_law_is_between") (fdA K (He.ga K "_law_is_between")) ["_law_deeds", "_law_sizes", "_law_first", "_law_earlier", "_law_later", "_law_piece_here", "_law_paper"] sp
abbrev Ok__law_is_missing (P : Program) (w : World) (K : PySem.W.Frag) (mg : Str → Option Value) (base : Heap) (sp : Sp) : Prop := FnOk P w K mg base CX0 4 (He.ga K "_law_is_missing") (fdA K (He.ga K "_law_is_missing")) ["_law_deeds", "_law_first", "_law_earlier", "_law_later", "_law_piece_here"] sp
abbrev Ok_law (P : Program) (w : World) (K : PySem.W.Frag) (mg : Str → Option Value) (base : Heap) (sp : Sp) : Prop := FnOk P w K mg base CX0 8 (He.ga K "law") (fdA K (He.ga K "law")) ["_law_script"] sp
end R40

set_option Elab.async false
set_option linter.all false
set_option maxRecDepth 100000
set_option maxHeartbeats 4000000
/-! Numbers from nought up, bits, what else the walks ask of values. -/
namespace R40
open PySem PySem.Spec PyProof.Rows L2 M40

theorem band_n (a b : Nat) : Builtin.bitAnd (a : Int) (b : Int) = ((a &&& b : Nat) : Int) := by simp [Builtin.bitAnd]
theorem bor_n (a b : Nat) : Builtin.bitOr (a : Int) (b : Int) = ((a ||| b : Nat) : Int) := by
  have h : ∀ n : Nat, Builtin.bitNot (n : Int) = -(n : Int) - 1 := fun _ => rfl
  have h1 : ¬ (0 : Int) ≤ -(a : Int) - 1 := by omega
  have h2 : ¬ (0 : Int) ≤ -(b : Int) - 1 := by omega
  unfold Builtin.bitOr Builtin.bitAnd
  rw [h, h, decide_eq_false h1, decide_eq_false h2]
  have e : ∀ n : Nat, (Builtin.bitNot (-(n : Int) - 1)).toNat = n := fun n => by
    unfold Builtin.bitNot
    omega
  show Builtin.bitNot (Builtin.bitNot (((Builtin.bitNot (-(a : Int) - 1)).toNat ||| (Builtin.bitNot (-(b : Int) - 1)).toNat : Nat) : Int)) = _
  rw [e, e]
  unfold Builtin.bitNot
  omega
theorem xor_and (a b : Nat) : (a ^^^ b) + (a &&& b) = a ||| b := by
  induction a using Nat.strongRecOn generalizing b with
  | _ a ih =>
    by_cases h0 : a = 0
    · subst h0
      simp
    · have ih' := ih (a / 2) (by omega) (b / 2)
      rw [← Nat.xor_div_two, ← Nat.and_div_two, ← Nat.or_div_two] at ih'
      have bit : ∀ x : Nat, x % 2 = if x.testBit 0 then 1 else 0 := fun x => by
        rw [Nat.testBit_zero]
        by_cases q : x % 2 = 1
        · simp [q]
        · have : x % 2 = 0 := by omega
          simp [this]
      have m1 := bit (a ^^^ b)
      have m2 := bit (a &&& b)
      have m3 := bit (a ||| b)
      rw [Nat.testBit_xor] at m1
      rw [Nat.testBit_and] at m2
      rw [Nat.testBit_or] at m3
      cases ha : a.testBit 0 <;> cases hb : b.testBit 0 <;> rw [ha, hb] at m1 m2 m3 <;> simp only [Bool.xor_true, Bool.xor_false, Bool.not_true, Bool.not_false, Bool.and_true, Bool.and_false, Bool.or_true, Bool.or_false, Bool.false_eq_true, if_true, if_false, ite_true, ite_false, reduceIte] at m1 m2 m3 <;> omega
theorem bxor_n (a b : Nat) : Builtin.bitXor (a : Int) (b : Int) = ((a ^^^ b : Nat) : Int) := by
  unfold Builtin.bitXor
  rw [bor_n, band_n]
  have := xor_and a b
  omega
theorem shr_n (a b : Nat) : (a : Int) / 2 ^ (b : Int).toNat = ((a >>> b : Nat) : Int) := by
  rw [Int.toNat_natCast, Nat.shiftRight_eq_div_pow]
  norm_cast
theorem shl_n (a b : Nat) : (a : Int) * 2 ^ (b : Int).toNat = ((a <<< b : Nat) : Int) := by
  rw [Int.toNat_natCast, Nat.shiftLeft_eq]
  norm_cast
theorem bit_n (m i : Nat) : ((m >>> i) &&& 1 : Nat) = if m.testBit i then 1 else 0 := by
  have h : m.testBit i = ((m >>> i) &&& 1 != 0) := by
    rw [Nat.testBit, Nat.and_comm]
  rw [h, Nat.and_one_is_mod]
  rcases Nat.mod_two_eq_zero_or_one (m >>> i) with e | e <;> rw [e] <;> rfl
section
variable {Γ : Env} {w : Wd} {s t u : Slot} {te ta tb tc : TE} {tt tu : TT} {K : PySem.W.Frag} {a b : Nat}
abbrev rAnd : R2 := rI0 fun i j => .int (Builtin.bitAnd i j)
abbrev rOr : R2 := rI0 fun i j => .int (Builtin.bitOr i j)
abbrev rXor : R2 := rI0 fun i j => .int (Builtin.bitXor i j)
abbrev rShr : R2 := rI (fun _ j => 0 ≤ j) fun i j => .int (i / 2 ^ j.toNat)
abbrev rShl : R2 := rI CPow fun i j => .int (i * 2 ^ j.toNat)
abbrev rPlus : R2 := rI0 fun i j => .int (i + j)
abbrev rMinus : R2 := rI0 fun i j => .int (i - j)
abbrev rTimes : R2 := rI CMul fun i j => .int (i * j)
abbrev rMod : R2 := rI (fun _ j => 0 < j) fun i j => .int (i % j)
abbrev rFdiv : R2 := rI CDiv fun i j => .int (i / j)
theorem e_and (ha : E ta Γ w (sNat a)) (hb : E tb Γ w (sNat b)) : E (tOp rAnd ta tb) Γ w (sNat (a &&& b)) := by
  rw [show sNat (a &&& b) = sInt (Builtin.bitAnd (a : Int) (b : Int)) by rw [band_n]]
  exact e_I0 ha hb
theorem e_or (ha : E ta Γ w (sNat a)) (hb : E tb Γ w (sNat b)) : E (tOp rOr ta tb) Γ w (sNat (a ||| b)) := by
  rw [show sNat (a ||| b) = sInt (Builtin.bitOr (a : Int) (b : Int)) by rw [bor_n]]
  exact e_I0 ha hb
theorem e_xor (ha : E ta Γ w (sNat a)) (hb : E tb Γ w (sNat b)) : E (tOp rXor ta tb) Γ w (sNat (a ^^^ b)) := by
  rw [show sNat (a ^^^ b) = sInt (Builtin.bitXor (a : Int) (b : Int)) by rw [bxor_n]]
  exact e_I0 ha hb
theorem e_shr (ha : E ta Γ w (sNat a)) (hb : E tb Γ w (sNat b)) : E (tOp rShr ta tb) Γ w (sNat (a >>> b)) := by
  rw [show sNat (a >>> b) = sInt ((a : Int) / 2 ^ (b : Int).toNat) by rw [shr_n]]
  exact e_I (by omega) ha hb
theorem e_shl (h1 : a < 2 ^ 64) (h2 : b ≤ 1000) (ha : E ta Γ w (sNat a)) (hb : E tb Γ w (sNat b)) : E (tOp rShl ta tb) Γ w (sNat (a <<< b)) := by
  rw [show sNat (a <<< b) = sInt ((a : Int) * 2 ^ (b : Int).toNat) by rw [shl_n]]
  exact e_I ⟨by omega, by omega, by rw [Int.natAbs_natCast]; exact h1⟩ ha hb
theorem e_plus (ha : E ta Γ w (sNat a)) (hb : E tb Γ w (sNat b)) : E (tOp rPlus ta tb) Γ w (sNat (a + b)) := by
  rw [show sNat (a + b) = sInt ((a : Int) + (b : Int)) from congrArg (fun i => sInt i) (Int.natCast_add a b)]
  exact e_I0 ha hb
theorem e_minus (h : b ≤ a) (ha : E ta Γ w (sNat a)) (hb : E tb Γ w (sNat b)) : E (tOp rMinus ta tb) Γ w (sNat (a - b)) := by
  rw [show sNat (a - b) = sInt ((a : Int) - (b : Int)) from congrArg (fun i => sInt i) (Int.ofNat_sub h)]
  exact e_I0 ha hb
theorem e_n (n : Nat) (i : Int) (h : i = (n : Int) := by rfl) : E (tC (.int i)) Γ w (sNat n) := by
  rw [h]
  exact e_c
theorem e_full (h : b ≤ 1000) (hb : E tb Γ w (sNat b)) : E (tOp rMinus (tOp rShl (tC (.int 1)) tb) (tC (.int 1))) Γ w (sNat (2 ^ b - 1)) := by
  have z := e_minus (a := 1 <<< b) (b := 1) (by rw [Nat.shiftLeft_eq, Nat.one_mul]; exact Nat.one_le_two_pow) (e_shl (a := 1) (by decide) h (e_n (Γ := Γ) (w := w) 1 1) hb) (e_n 1 1)
  rw [Nat.shiftLeft_eq, Nat.one_mul] at z
  exact z
/-- (m >> i) & 1 -/
theorem e_bit (ha : E ta Γ w (sNat a)) (hb : E tb Γ w (sNat b)) : E (tOp rAnd (tOp rShr ta tb) (tC (.int 1))) Γ w (sNat (if a.testBit b then 1 else 0)) := by
  rw [← bit_n]
  exact e_and (e_shr ha hb) (e_n 1 1)
theorem dec_n (a b : Nat) : decide (V.int (a : Int) = V.int (b : Int)) = (a == b) := by
  rw [Bool.eq_iff_iff]
  simp [Int.natCast_inj]
theorem t_eqN (ha : E ta Γ w (sNat a)) (hb : E tb Γ w (sNat b)) : ET (tTest (tOp rEq ta tb)) Γ w (a == b) := by
  rw [← dec_n]
  exact t_test (e_eq rfl ha hb)
theorem t_neN (ha : E ta Γ w (sNat a)) (hb : E tb Γ w (sNat b)) : ET (tTest (tOp rNe ta tb)) Γ w (a != b) := by
  show ET _ _ _ (!(a == b))
  rw [← dec_n]
  exact t_test (e_ne rfl ha hb)
theorem e_eqN (ha : E ta Γ w (sNat a)) (hb : E tb Γ w (sNat b)) : E (tOp rEq ta tb) Γ w (sBl (a == b)) := by
  rw [← dec_n]
  exact e_eq rfl ha hb
theorem e_neN (ha : E ta Γ w (sNat a)) (hb : E tb Γ w (sNat b)) : E (tOp rNe ta tb) Γ w (sBl (a != b)) := by
  show E _ _ _ (sBl (!(a == b)))
  rw [← dec_n]
  exact e_ne rfl ha hb
/-- (m >> i) & 1 == 0 -/
theorem t_bit0 (ha : E ta Γ w (sNat a)) (hb : E tb Γ w (sNat b)) : ET (tTest (tOp rEq (tOp rAnd (tOp rShr ta tb) (tC (.int 1))) (tC (.int 0)))) Γ w (!a.testBit b) := by
  refine t_is (t_eqN (e_bit ha hb) (e_n 0 0)) ?_
  cases a.testBit b <;> rfl
theorem t_bit1 (ha : E ta Γ w (sNat a)) (hb : E tb Γ w (sNat b)) : ET (tTest (tOp rEq (tOp rAnd (tOp rShr ta tb) (tC (.int 1))) (tC (.int 1)))) Γ w (a.testBit b) := by
  refine t_is (t_eqN (e_bit ha hb) (e_n 1 1)) ?_
  cases a.testBit b <;> rfl
theorem t_ltN (ha : E ta Γ w (sNat a)) (hb : E tb Γ w (sNat b)) : ET (tTest (tOp (rI0 fun i j => .bl (decide (i < j))) ta tb)) Γ w (decide (a < b)) := by
  refine t_is (t_test (e_I0 (g := fun i j => .bl (decide (i < j))) ha hb)) ?_
  rw [Bool.eq_iff_iff]
  simp
theorem t_leN (ha : E ta Γ w (sNat a)) (hb : E tb Γ w (sNat b)) : ET (tTest (tOp (rI0 fun i j => .bl (decide (i ≤ j))) ta tb)) Γ w (decide (a ≤ b)) := by
  refine t_is (t_test (e_I0 (g := fun i j => .bl (decide (i ≤ j))) ha hb)) ?_
  rw [Bool.eq_iff_iff]
  simp
theorem t_gtN (ha : E ta Γ w (sNat a)) (hb : E tb Γ w (sNat b)) : ET (tTest (tOp (rI0 fun i j => .bl (decide (j < i))) ta tb)) Γ w (decide (b < a)) := by
  refine t_is (t_test (e_I0 (g := fun i j => .bl (decide (j < i))) ha hb)) ?_
  rw [Bool.eq_iff_iff]
  simp
theorem t_geN (ha : E ta Γ w (sNat a)) (hb : E tb Γ w (sNat b)) : ET (tTest (tOp (rI0 fun i j => .bl (decide (j ≤ i))) ta tb)) Γ w (decide (b ≤ a)) := by
  refine t_is (t_test (e_I0 (g := fun i j => .bl (decide (j ≤ i))) ha hb)) ?_
  rw [Bool.eq_iff_iff]
  simp
end
/-! ### the data's slots -/
abbrev sNs (l : List Nat) : Slot := sTup (fun n : Nat => sNat n) l
abbrev sPiece (p : List (List Nat)) : Slot := sLst sNs p
end R40

set_option Elab.async false
set_option linter.all false
set_option maxRecDepth 100000
set_option maxHeartbeats 4000000
/-! Rules that the layer lacks: zip of a tuple and a list, enumerate of a tuple, l[i] read for an augmented store. -/
namespace R40
open PySem PySem.Spec PyProof.Rows L2

theorem ip_band {X : Cx} : PIp X .BitAnd (rI0 fun i j => .int (Builtin.bitAnd i j)) := iop_and
theorem ip_ext {X : Cx} : PIp X .Add rExt2 := iop_ext
/-- l[i], 0 ≤ i -/
def rGetL (K : PySem.W.Frag) : V → V → Hp → VK → Prop := fun x y H Q => ∃ (p : Addr) (xs : List V) (i : Nat) (v : V), x = .ref p ∧ y = .int (i : Int) ∧ SqL K H p xs ∧ xs[i]? = some v ∧ Q v H
theorem get_list {X : Cx} : PGet X (rGetL X.K) := by
  intro pins s σ H o i ov iv Q I r1 r2 h
  obtain ⟨p, xs, i, v, rfl, rfl, hq, hv, q⟩ := h
  cases r1
  obtain ⟨t, rfl⟩ := r2
  obtain ⟨its, r, pl, hz⟩ := I.list hq
  obtain ⟨u, hu, ru⟩ := r.get hv
  have hi := (List.getElem?_eq_some_iff.mp hv).1
  have h63 := line63
  exact getItem_listL (l := its) pl.isList (by omega) (by omega) (by rw [Int.toNat_natCast]; exact hu) ⟨v, H, I, ru, q⟩

/-! ### zip of a tuple at a and a list at b -/
def ItzM (K : PySem.W.Frag) (a b : Addr) : It where
  go := fun i H => ∃ (xs ys : List V) (x y : V), SqT K H a xs ∧ SqL K H b ys ∧ xs[i]? = some x ∧ ys[i]? = some y
  yld := fun i H v H' => ∃ T x y, v = .ref T ∧ H T = none ∧ H' = upd H T (.tup [x, y]) ∧ (∀ xs, SqT K H a xs → xs[i]? = some x) ∧ ∀ ys, SqL K H b ys → ys[i]? = some y
  stop := fun i H => ∃ xs ys : List V, SqT K H a xs ∧ SqL K H b ys ∧ i ≤ xs.length ∧ i ≤ ys.length ∧ (i = xs.length ∨ i = ys.length)
theorem mem5 {c z a b d e : Addr} (h : c ∈ [z, a, b, d, e]) : c = z ∨ c = a ∨ c = b ∨ c = d ∨ c = e := by
  rcases List.mem_cons.mp h with h | h
  · exact .inl h
  rcases List.mem_cons.mp h with h | h
  · exact .inr (.inl h)
  rcases List.mem_cons.mp h with h | h
  · exact .inr (.inr (.inl h))
  rcases List.mem_cons.mp h with h | h
  · exact .inr (.inr (.inr (.inl h)))
  · exact .inr (.inr (.inr (.inr (List.mem_singleton.mp h))))
structure ZM (a b z TI TO i1 i2 : Addr) (i : Nat) (h : Heap) : Prop where
  zip : IsZip h z TI TO .none
  ti : IsTupOf2 h TI (.ref i1) (.ref i2)
  to : ∃ x y, IsTupOf2 h TO x y
  l : h.IsTupleIter i1 a i
  r : h.IsListIter i2 b i
theorem turn_zipM {P : Program} {w : World} {K : PySem.W.Frag} {elts : List Expr} {kk : Nat} {tpos : Pos} {a b z TI TO i1 i2 : Addr} (D : ZipSep2 z TI TO i1 i2 [i1, a] [i2, b]) (na : a ≠ i1) (nb : b ≠ i2) :
    Turn P w K (.Tuple elts kk tpos) (ItzM K a b) [z, TI, TO, i1, i2] z (ZM a b z TI TO i1 i2) where
  mem := List.mem_cons_self
  obj := fun i h st c hc => by
    obtain ⟨o1, e1, _, d1⟩ := st.l
    obtain ⟨o2, e2, _, d2⟩ := st.r
    obtain ⟨x, y, hTO⟩ := st.to
    have k1 : ∀ v, o1.data ≠ .cell v := fun v q => by rw [d1] at q; cases q
    have k2 : ∀ v, o2.data ≠ .cell v := fun v q => by rw [d2] at q; cases q
    rcases mem5 hc with q | q | q | q | q <;> rw [q]
    · exact ⟨_, st.zip, fun v q => nomatch q⟩
    · exact ⟨_, st.ti, fun v q => nomatch q⟩
    · exact ⟨_, hTO, fun v q => nomatch q⟩
    · exact ⟨o1, e1, k1⟩
    · exact ⟨o2, e2, k2⟩
  keep := fun i h h' st k => by
    obtain ⟨x, y, hTO⟩ := st.to
    exact ⟨k z (by simp) _ st.zip, k TI (by simp) _ st.ti, ⟨x, y, k TO (by simp) _ hTO⟩, st.l.at fun o q => k i1 (by simp) o q, st.r.at fun o q => k i2 (by simp) o q⟩
  item := by
    intro X hP hw hK hc i pins s σ H E I hf st hg
    subst hP hw hK
    obtain ⟨x0, y0, hTO⟩ := st.to
    obtain ⟨xs, ys, x, y, hqx, hqy, hx, hy⟩ := hg
    obtain ⟨its, rv, p, _⟩ := I.tuple hqx
    obtain ⟨its2, rv2, p2, _⟩ := I.list hqy
    obtain ⟨u, hu, ru⟩ := rv.get hx
    obtain ⟨u2, hu2, ru2⟩ := rv2.get hy
    have hh : X.A.in1.handled = none := I.ok.hd hc
    have D1 := Draws.tuple (prog := X.prog) (w := X.w) hh i1 a na its.toArray
    have D2 := Draws.list (prog := X.prog) (w := X.w) hh i2 b nb its2.toArray
    have i1l : i < its.toArray.size := by rw [List.size_toArray]; exact (List.getElem?_eq_some_iff.mp hu).1
    have i2l : i < its2.toArray.size := by rw [List.size_toArray]; exact (List.getElem?_eq_some_iff.mp hu2).1
    have lz : z < s.heap.objs.size := Heap.lt_size st.zip
    refine wpAny_pyNext_zipD2_item D D1 D2 st.zip st.ti hTO ⟨st.l, p⟩ ⟨st.r, p2.isList⟩ i1l i2l fun v1 v2 h' tk e1 e2 z' TO' s1 s2 hT hsz hk => ?_
    have e1 : v1 = u := by
      have q : its[i]? = some v1 := by simpa using e1
      rw [hu] at q
      exact (Option.some.inj q).symm
    have e2 : v2 = u2 := by
      have q : its2[i]? = some v2 := by simpa using e2
      rw [hu2] at q
      exact (Option.some.inj q).symm
    subst e1 e2
    refine ⟨_, rfl, wpAny_letOwnedTupleGo_zip (s := { s with heap := h', toks := tk }) z' fun h2 z2 sb => ?_⟩
    have hT2 : h2.get? s.heap.objs.size = some { cls := .type "tuple", data := .seq #[v1, v2] } := (sb.2 _ (Nat.ne_of_gt lz)).trans hT
    have kp : ∀ c o, c ∉ [z, TI, TO, i1, i2] → s.heap.get? c = some o → h2.get? c = some o := fun c o hb q => by
      simp only [List.mem_cons, List.not_mem_nil, or_false, not_or] at hb
      exact (sb.2 c hb.1).trans (hk c o hb.1 hb.2.2.1 hb.2.2.2.1 hb.2.2.2.2 q)
    have new : ObjOk X.prog X.w (upd H s.heap.objs.size (.tup [x, y])) h2 s.heap.objs.size (.tup [x, y]) :=
      ⟨by show 2 ≤ sizeLine; decide, [v1, v2], .cons ru (.cons ru2 .nil), ⟨_, hT2, rfl, _, rfl⟩⟩
    have I1 : Inv X pins σ (upd H s.heap.objs.size (.tup [x, y])) { s with heap := h2, toks := tk } := I.turnedNew (t' := tk) (ch := [z, TI, TO, i1, i2]) kp hf (Nat.le_refl _) new
    refine ⟨.ref s.heap.objs.size, _, I1, rfl, ⟨_, x, y, rfl, I.hok.fresh (Nat.le_refl _), rfl, fun l hl => by rw [I.tuple_inj hl hqx]; exact hx, fun l hl => by rw [I.list_inj hl hqy]; exact hy⟩, ⟨z2, ?_, ⟨v1, v2, ?_⟩, ?_, ?_⟩, fun c hcm => ?_⟩
    · exact (sb.2 _ D.TIz).trans (hk _ _ D.TIz D.TITO D.TIi1 D.TIi2 st.ti)
    · exact (sb.2 _ D.TOz).trans TO'
    · exact s1.1.at fun o q => (sb.2 _ (Ne.symm D.zi1)).trans q
    · exact s2.1.at fun o q => (sb.2 _ (Ne.symm D.zi2)).trans q
    · have lt : c < s.heap.objs.size := by
        obtain ⟨o, ho, _⟩ : ∃ o, s.heap.get? c = some o ∧ True := by
          obtain ⟨o1, e1, _⟩ := st.l
          obtain ⟨o2, e2, _⟩ := st.r
          rcases mem5 hcm with q | q | q | q | q <;> rw [q]
          · exact ⟨_, st.zip, trivial⟩
          · exact ⟨_, st.ti, trivial⟩
          · exact ⟨_, hTO, trivial⟩
          · exact ⟨_, e1, trivial⟩
          · exact ⟨_, e2, trivial⟩
        exact Heap.lt_size ho
      exact keepU (Nat.ne_of_lt lt) (hf c hcm).1
  done := by
    intro X hP hw hK hc i pins s σ H E I hf st hg
    subst hP hw hK
    obtain ⟨x0, y0, hTO⟩ := st.to
    obtain ⟨xs, ys, hqx, hqy, b1, b2, he⟩ := hg
    obtain ⟨its, rv, p, _⟩ := I.tuple hqx
    obtain ⟨its2, rv2, p2, _⟩ := I.list hqy
    have l1 := rv.length
    have l2 := rv2.length
    have hh : X.A.in1.handled = none := I.ok.hd hc
    have D1 := Draws.tuple (prog := X.prog) (w := X.w) hh i1 a na its.toArray
    have D2 := Draws.list (prog := X.prog) (w := X.w) hh i2 b nb its2.toArray
    refine wpAny_pyNext_zipD2_end D D1 D2 st.zip st.ti hTO ⟨st.l, p⟩ ⟨st.r, p2.isList⟩ (by rw [List.size_toArray]; omega) (by rw [List.size_toArray]; omega)
      (by rw [List.size_toArray, List.size_toArray]; omega) fun h' tk hk => ⟨rfl, I.turnedL (t' := tk) (ch := [z, TI, TO, i1, i2]) (fun c o hb q => ?_) hf⟩
    simp only [List.mem_cons, List.not_mem_nil, or_false, not_or] at hb
    exact hk c o hb.1 hb.2.2.1 hb.2.2.2.1 hb.2.2.2.2 q
  self := fun A i s Q E st h => wpAny_pyIter_zip st.zip h
def iZipM (K : PySem.W.Frag) (ta : TA) : TI := fun σ H R => ta σ H fun vs H1 => ∃ a b xs ys, vs = [.ref a, .ref b] ∧ SqT K H1 a xs ∧ SqL K H1 b ys ∧ R (ItzM K a b) H1
theorem pi_zipTL {X : Cx} {e e2 : Expr} {ta : TA} {p pos tpos : Pos} {elts : List Expr} {kk : Nat} (hg : Gl X "zip") (hm : X.mg "zip" = none) (ha : PA X [e, e2] ta)
    (hs : starEach [e, e2] X.env = (false, eval e X.env) :: starEach [e2] X.env := by rfl) (hpl : (backTo pos (starEach [e2] X.env)).any (·.1) = false := by rfl) :
    PI X (.Tuple elts kk tpos) (.Call (.Name "zip" p) [e, e2] [] pos) (iZipM X.K ta) := by
  refine ⟨fun pins s σ H R I h => ?_⟩
  refine Call_ (ld_blt I hg hm PyProof.Rows.boot_zip (PyProof.Rows.callWith_type1 (thn (ha.run pos pins s σ H _ I h) fun us s1 ⟨vs, H1, I1, r1, a, b, xs, ys, ex, hqx, hqy, q⟩ => ?_) hs hpl))
  subst ex
  cases r1 with
  | cons r rr =>
    cases rr with
    | cons r' rr =>
      cases rr
      cases r
      cases r'
      obtain ⟨its, rv, p1, _⟩ := I1.tuple hqx
      obtain ⟨its2, rv2, p2, _⟩ := I1.list hqy
      obtain ⟨o1, ho1, _⟩ := id p1
      have la : a < s1.heap.objs.size := Heap.lt_size ho1
      have lb : b < s1.heap.objs.size := p2.lt
      refine zip_begins2 (begins_tuple a its.toArray) (begins_list b its2.toArray) p1 p2.isList fun h' hz hTI hTO g1 g2 hsz hk => wpAny_pyIter_zip hz ?_
      have I2 : Inv X pins σ H1 { s1 with heap := h' } := I1.kept (t' := s1.toks) hk
      have D : ZipSep2 (s1.heap.objs.size + 4) (s1.heap.objs.size + 2) (s1.heap.objs.size + 3) s1.heap.objs.size (s1.heap.objs.size + 1) [s1.heap.objs.size, a] [s1.heap.objs.size + 1, b] :=
        zip_sep2 (fun c hc => by rw [List.mem_singleton.mp hc]; exact la) (fun c hc => by rw [List.mem_singleton.mp hc]; exact lb)
      refine ⟨s1.heap.objs.size + 4, [s1.heap.objs.size + 4, s1.heap.objs.size + 2, s1.heap.objs.size + 3, s1.heap.objs.size, s1.heap.objs.size + 1], _, _, H1, rfl, I2,
        turn_zipM D (Nat.ne_of_lt la) (Nat.ne_of_lt (Nat.lt_succ_of_lt lb)), ⟨hz, hTI, ⟨_, _, hTO⟩, ⟨_, g1, rfl, rfl⟩, ⟨_, g2, rfl, rfl⟩⟩, fun c hcm => ?_, q⟩
      have hle : s1.heap.objs.size ≤ c := by
        rcases mem5 hcm with z | z | z | z | z <;> rw [z] <;> first | exact Nat.le_add_right _ _ | exact Nat.le_refl _
      exact I1.fpOk hle (I1.hok.fresh hle)
section
variable {Γ : Env} {w : Wd} {ta tb tl : TE} {K : PySem.W.Frag} {α β : Type} {R : α → Slot} {S : β → Slot} {xs : List α} {ys : List β}
theorem i_zipTL (hl : xs.length = ys.length) (h1 : E ta Γ w (sTup R xs)) (h2 : E tb Γ w (sLst S ys)) : I (iZipM K (tCons ta (tCons tb tNil))) Γ w (xs.zip ys) (fun p => sT2 (R p.1) (S p.2)) := fun σ w1 l o C c =>
  h1 σ w1 l o _ fun v w2 l2 p => h2 σ w2 (l.trans l2) (o.up l2) _ fun u w3 l3 p' => by
    obtain ⟨a, vs, rfl, ha, r⟩ := Slot.up l3 p
    obtain ⟨b, us, rfl, hb, r'⟩ := p'
    have q : ∀ w4, Gx w3 w4 → SqT K w4.H a vs := fun w4 g => SqT.of (w4.sub _ _ (g _ _ ha))
    have q' : ∀ w4, Gx w3 w4 → SqL K w4.H b us := fun w4 g => SqL.of (w4.sub _ _ (g _ _ hb))
    have hzl : (xs.zip ys).length = xs.length := by rw [List.length_zip]; omega
    refine ⟨a, b, vs, us, rfl, q w3 fun _ _ e => e, q' w3 fun _ _ e => e, c _ w3 (l2.trans l3) ⟨fun i w4 hi g => ?_, fun w4 g => ⟨vs, us, q w4 g, q' w4 g, ?_⟩, fun i w4 v H' x hx g y => ?_⟩⟩
    · rw [hzl] at hi
      exact ⟨vs, us, vs[i]'(by rw [r.len]; omega), us[i]'(by rw [r'.len]; omega), q w4 g, q' w4 g, List.getElem?_eq_getElem _, List.getElem?_eq_getElem _⟩
    · rw [hzl, r.len, r'.len]
      omega
    · obtain ⟨T, x1, y1, rfl, nT, rfl, f1, f2⟩ := y
      obtain ⟨hx1, hx2⟩ := zip_at hx
      refine ⟨w4.new T (.tup [x1, y1]), rfl, Wd.le_new nT, T, x1, y1, rfl, upd_same, ?_, ?_⟩
      · exact Slot.up (Wd.le_new nT) ((R x.1).mono g (r.at_ i _ _ (f1 vs (q w4 g)) hx1))
      · exact Slot.up (Wd.le_new nT) ((S x.2).mono g (r'.at_ i _ _ (f2 us (q' w4 g)) hx2))
end

/-! ### enumerate of a tuple at a -/
set_option maxHeartbeats 8000000 in
theorem meets_enumT {v : Value} {o : Obj} {Hv : Heap → Prop} (B : Begins v o Hv) :
    Meets (Builtin.«enumerate.__new__» ⟨[.type "enumerate", v], []⟩) (fun _ R s => Hv s.heap ∧
      R (.ok (.ret (.ref (s.heap.push o).objs.size))) { s with heap := (s.heap.push o).push { cls := .type "enumerate", data := .fields #[.none, .bool false, .ref s.heap.objs.size, rawInt 0, .none, .none] } }) :=
  .of_wp fun prog w A R s h => by
    obtain ⟨hp, g, d, tk, os⟩ := s
    obtain ⟨h1, h⟩ := h
    have hsub := sub_enumerate
    have q1 : ∀ {A' : Around} {E : Value → Shared → Prop} {Q : Value → Shared → Prop}, Q (.ref hp.objs.size) ⟨hp.push o, g, d, tk, os⟩ → wpAny (model prog w) A' (pyIter v) Q E ⟨hp, g, d, tk, os⟩ := fun q => B.iter prog w _ _ ⟨hp, g, d, tk, os⟩ _ h1 q
    wp_walk using q1
    refine wpAny_stack_any fun st => wpAny_pure ?_
    split
    · rename_i c _ _ _ _ _
      cases (c == Value.type "enumerate") <;> (wp_walk using q1; exact ⟨_, rfl, h⟩)
    · wp_walk using q1
      exact ⟨_, rfl, h⟩
theorem call_enumT {prog : Program} {w : World} {A : Around} {E : Value → Shared → Prop} {s : Shared} {v : Value} {o : Obj} {Hv : Heap → Prop} {Q : Value → Shared → Prop} (B : Begins v o Hv) (h1 : Hv s.heap)
    (h : ∀ h', IsEnum h' (s.heap.objs.size + 1) s.heap.objs.size 0 .none → h'.get? s.heap.objs.size = some o → (∀ b o, s.heap.get? b = some o → h'.get? b = some o) → Q (.ref (s.heap.objs.size + 1)) { s with heap := h' }) :
    wpAny (model prog w) A (call (.type "enumerate") [v]) Q E s := by
  refine callType_new F.called_enumerate (by decide) (F.typeCall_enumerate_1 _) (F.newCall_enumerate_1 _) (fun obj => F.args_object_init_2 obj _) F.entry_enumerate_new (meets_enumT B) ⟨h1, ?_⟩
  have z1 : (s.heap.push o).objs.size = s.heap.objs.size + 1 := Heap.size_push ..
  show _ ∧ _
  have g : ((s.heap.push o).push { cls := .type "enumerate", data := .fields #[.none, .bool false, .ref s.heap.objs.size, rawInt 0, .none, .none] }).get? (s.heap.push o).objs.size = _ := Heap.get?_push_size (s.heap.push o) rfl
  rw [z1] at g ⊢
  exact ⟨⟨_, g, rfl⟩, h _ g (Heap.get?_push_of_some _ (Heap.get?_push_size _ B.free)) fun b u x => Heap.get?_push_of_some _ (Heap.get?_push_of_some _ x)⟩
def IteT (K : PySem.W.Frag) (a : Addr) : It where
  go := fun i H => ∃ (xs : List V) (x : V), SqT K H a xs ∧ xs[i]? = some x
  yld := fun i H v H' => ∃ T x, v = .ref T ∧ H T = none ∧ H' = upd H T (.tup [.int (i : Nat), x]) ∧ ∀ xs, SqT K H a xs → xs[i]? = some x
  stop := fun i H => ∃ xs : List V, SqT K H a xs ∧ xs.length = i
structure EM (a e it : Addr) (i : Nat) (h : Heap) : Prop where
  en : ∃ old, IsEnum h e it ((i : Nat) : Int) old
  l : h.IsTupleIter it a i
theorem mem2 {c e it : Addr} (h : c ∈ [e, it]) : c = e ∨ c = it := by
  rcases List.mem_cons.mp h with h | h
  · exact .inl h
  · exact .inr (List.mem_singleton.mp h)
theorem turn_enumT {P : Program} {w : World} {K : PySem.W.Frag} {elts : List Expr} {kk : Nat} {tpos : Pos} {a e it : Addr} (ne : e ≠ it) (na : a ≠ it) (nea : e ≠ a) : Turn P w K (.Tuple elts kk tpos) (IteT K a) [e, it] e (EM a e it) where
  mem := List.mem_cons_self
  obj := fun i h st c hc => by
    obtain ⟨old, he⟩ := st.en
    obtain ⟨o1, e1, _, d1⟩ := st.l
    rcases mem2 hc with q | q <;> rw [q]
    · exact ⟨_, he, fun v q => nomatch q⟩
    · exact ⟨o1, e1, fun v q => by rw [d1] at q; cases q⟩
  keep := fun i h h' st k => by
    obtain ⟨old, he⟩ := st.en
    exact ⟨⟨old, k e (by simp) _ he⟩, st.l.at fun o q => k it (by simp) o q⟩
  item := by
    intro X hP hw hK hc i pins s σ H E I hf st hg
    subst hP hw hK
    obtain ⟨old, he⟩ := st.en
    obtain ⟨xs, x, hq, hx⟩ := hg
    obtain ⟨its, rv, p, _⟩ := I.tuple hq
    obtain ⟨u, hu, ru⟩ := rv.get hx
    have hh : X.A.in1.handled = none := I.ok.hd hc
    have D1 := Draws.tuple (prog := X.prog) (w := X.w) hh it a na its.toArray
    have lt : i < its.toArray.size := by rw [List.size_toArray]; exact (List.getElem?_eq_some_iff.mp hu).1
    have le : e < s.heap.objs.size := Heap.lt_size he
    refine wpAny_pyNext_enum_itemD D1 he ⟨st.l, p⟩ lt ne (by simp [ne, nea]) fun v1 h' tk e1 ho s1 hT hsz hk => ?_
    have e1 : v1 = u := by
      have q : its[i]? = some v1 := by simpa using e1
      rw [hu] at q
      exact (Option.some.inj q).symm
    subst e1
    refine ⟨_, rfl, wpAny_letOwnedTupleGo_enum (s := { s with heap := h', toks := tk + 1 }) ho fun h2 he2 sb => ?_⟩
    have hT2 : h2.get? s.heap.objs.size = some { cls := .type "tuple", data := .seq #[.int i tk, v1] } := (sb.2 _ (Nat.ne_of_gt le)).trans hT
    have kp : ∀ c o, c ∉ [e, it] → s.heap.get? c = some o → h2.get? c = some o := fun c o hb q => by
      simp only [List.mem_cons, List.not_mem_nil, or_false, not_or] at hb
      exact (sb.2 c hb.1).trans (hk c o hb.1 hb.2 q)
    have new : ObjOk X.prog X.w (upd H s.heap.objs.size (.tup [.int (i : Nat), x])) h2 s.heap.objs.size (.tup [.int (i : Nat), x]) :=
      ⟨by show 2 ≤ sizeLine; decide, [.int i tk, v1], .cons ⟨_, rfl⟩ (.cons ru .nil), ⟨_, hT2, rfl, _, rfl⟩⟩
    have I1 : Inv X pins σ (upd H s.heap.objs.size (.tup [.int (i : Nat), x])) { s with heap := h2, toks := tk + 1 } := I.turnedNew (t' := tk + 1) (ch := [e, it]) kp hf (Nat.le_refl _) new
    refine ⟨.ref s.heap.objs.size, _, I1, rfl, ⟨_, x, rfl, I.hok.fresh (Nat.le_refl _), rfl, fun l hl => by rw [I.tuple_inj hl hq]; exact hx⟩, ⟨⟨v1, ?_⟩, ?_⟩, fun c hcm => ?_⟩
    · have ei : ((i + 1 : Nat) : Int) = (i : Int) + 1 := by omega
      rw [ei]
      exact he2
    · exact s1.1.at fun o q => (sb.2 _ (Ne.symm ne)).trans q
    · have lt : c < s.heap.objs.size := by
        obtain ⟨o1, e1, _⟩ := st.l
        rcases mem2 hcm with q | q <;> rw [q]
        · exact le
        · exact Heap.lt_size e1
      exact keepU (Nat.ne_of_lt lt) (hf c hcm).1
  done := by
    intro X hP hw hK hc i pins s σ H E I hf st hg
    subst hP hw hK
    obtain ⟨old, he⟩ := st.en
    obtain ⟨xs, hq, hl⟩ := hg
    obtain ⟨its, rv, p, _⟩ := I.tuple hq
    have hh : X.A.in1.handled = none := I.ok.hd hc
    have D1 := Draws.tuple (prog := X.prog) (w := X.w) hh it a na its.toArray
    have l1 := rv.length
    have ei : i = its.toArray.size := by rw [List.size_toArray]; omega
    refine wpAny_pyNext_enum_endD D1 he (ei ▸ ⟨st.l, p⟩) fun h' eb => ⟨rfl, I.turnedL (t' := s.toks) (ch := [e, it]) (fun c o hb q => ?_) hf⟩
    simp only [List.mem_cons, List.not_mem_nil, or_false, not_or] at hb
    exact eb c o hb.2 q
  self := fun A i s Q E st h => let ⟨_, he⟩ := st.en; wpAny_pyIter_enum he h
def iEnumT (K : PySem.W.Frag) (ta : TA) : TI := fun σ H R => ta σ H fun vs H1 => ∃ a xs, vs = [.ref a] ∧ SqT K H1 a xs ∧ R (IteT K a) H1
theorem pi_enumT {X : Cx} {e : Expr} {ta : TA} {p pos tpos : Pos} {elts : List Expr} {kk : Nat} (hg : Gl X "enumerate") (hm : X.mg "enumerate" = none) (ha : PA X [e] ta) (hs : starEach [e] X.env = [(false, eval e X.env)] := by rfl) :
    PI X (.Tuple elts kk tpos) (.Call (.Name "enumerate" p) [e] [] pos) (iEnumT X.K ta) := by
  refine ⟨fun pins s σ H R I h => ?_⟩
  refine Call_ (ld_blt I hg hm boot_enumerate (PyProof.Rows.callWith_type1 (thn (ha.run pos pins s σ H _ I h) fun us s1 ⟨vs, H1, I1, r1, a, xs, ex, hq, q⟩ => ?_) hs rfl))
  subst ex
  cases r1 with
  | cons r rr =>
    cases rr
    cases r
    obtain ⟨its, rv, p1, _⟩ := I1.tuple hq
    obtain ⟨o1, ho1, _⟩ := id p1
    have la : a < s1.heap.objs.size := Heap.lt_size ho1
    refine call_enumT (begins_tuple a its.toArray) p1 fun h' he g1 hk => wpAny_pyIter_enum he ?_
    have I2 : Inv X pins σ H1 { s1 with heap := h' } := I1.kept (t' := s1.toks) hk
    refine ⟨s1.heap.objs.size + 1, [s1.heap.objs.size + 1, s1.heap.objs.size], _, _, H1, rfl, I2, turn_enumT (Nat.succ_ne_self _) (Nat.ne_of_lt la) (Nat.ne_of_gt (Nat.lt_succ_of_lt la)), ⟨⟨_, he⟩, ⟨_, g1, rfl, rfl⟩⟩, fun c hcm => ?_, q⟩
    have hle : s1.heap.objs.size ≤ c := by
      rcases mem2 hcm with z | z <;> rw [z] <;> first | exact Nat.le_add_right _ _ | exact Nat.le_refl _
    exact I1.fpOk hle (I1.hok.fresh hle)
section
variable {Γ : Env} {w : Wd} {tl : TE} {K : PySem.W.Frag} {α : Type} {R : α → Slot} {xs : List α}
theorem i_enumT (h : E tl Γ w (sTup R xs)) : I (iEnumT K (tCons tl tNil)) Γ w (enumN xs) (fun p => sT2 (sNat p.1) (R p.2)) := fun σ w1 l o C c => h σ w1 l o _ fun v w2 l2 p => by
  obtain ⟨a, vs, rfl, ha, r⟩ := p
  have q : ∀ w3, Gx w2 w3 → SqT K w3.H a vs := fun w3 g => SqT.of (w3.sub _ _ (g _ _ ha))
  refine ⟨a, vs, rfl, q w2 fun _ _ e => e, c _ w2 l2 ⟨fun i w3 hi g => ?_, fun w3 g => ⟨vs, q w3 g, ?_⟩, fun i w3 v H' x hx g y => ?_⟩⟩
  · rw [enumN_length] at hi
    exact ⟨vs, vs[i]'(by rw [r.len]; exact hi), q w3 g, List.getElem?_eq_getElem _⟩
  · rw [enumN_length, r.len]
  · obtain ⟨T, x1, rfl, nT, rfl, f1⟩ := y
    obtain ⟨e1, e2⟩ := enumN_at hx
    refine ⟨w3.new T (.tup [.int (i : Nat), x1]), rfl, Wd.le_new nT, T, _, x1, rfl, upd_same, ?_, ?_⟩
    · rw [e1]
      rfl
    · exact Slot.up (Wd.le_new nT) ((R x.2).mono g (r.at_ i _ _ (f1 vs (q w3 g)) e2))
end
end R40

set_option Elab.async false
set_option linter.all false
set_option maxRecDepth 100000
set_option maxHeartbeats 8000000
/-! len(set(xs)), xs a list of different texts (the library's rule over one text at most, turned to any number). -/
namespace R40
open PySem PySem.Spec PyProof.Rows L2

section
variable {prog : Program} {w : World} {A : Around}
/-- what stands in the set behind i turns -/
def inTk (xs : List Str) (i : Nat) : Str → Bool := fun k => decide (k ∈ xs.take i)
theorem set_loopT {R : Result → Shared → Prop} {I : Addr} {fp wr : List Addr} {Gn : Array GenState → Array GenState → Prop} {n : Nat} {Pv : Nat → Value → Prop} {St : Nat → Shared → Prop}
    (W : WalksS prog w A.in1 I fp wr Gn n Pv St) (Sa : Addr) (nf : Sa ∉ fp) (xs : List Str) (hn : xs.length = n) (nd : xs.Nodup) (few : n ≤ 1000) (hv : ∀ i v, Pv i v → ∃ x t, xs[i]? = some x ∧ v = .str x t) (k : Nat) :
    ∀ (i : Nat) (s : Shared), n - i = k → i ≤ n → St i s → s.heap.SetOf (PySem.strKind prog w) Sa (inTk xs i) i →
      (∀ s', Moved (Sa :: wr) Gn s s' → s'.heap.SetOf (PySem.strKind prog w) Sa (inTk xs n) n → R (.ok (.ret .none)) s') → codeAny (model prog w) A (.builtin "set.update.loop" ⟨[.ref Sa, .ref I], []⟩) R s := by
  have nw : Sa ∉ wr := fun h => nf (W.sub _ h)
  have up : ∀ b ∈ wr, b ∈ Sa :: wr := fun b hb => List.mem_cons_of_mem _ hb
  have keep : ∀ {S : Str → Bool} {m : Nat} {s s' : Shared}, Moved wr Gn s s' → s.heap.SetOf (PySem.strKind prog w) Sa S m → s'.heap.SetOf (PySem.strKind prog w) Sa S m := fun hm ⟨o, es, ep, t, ho, r⟩ => ⟨o, es, ep, t, hm.heap Sa _ nw ho, r⟩
  induction k with
  | zero =>
    intro i s hk hi st hS hR
    obtain rfl : i = n := by omega
    refine codeAny_builtin PyProof.Rows.F.entry_set_update_loop ?_
    rw [Around.under_plainId PyProof.Rows.F.plain_set_update_loop _]
    show wpAny _ A.in1 (pyNext (.ref I) >>= _) _ _ s
    exact wpAny_bind (W.done s _ _ st fun s' hm => by
      show wpAny _ A.in1 (ret Value.none) _ _ s'
      exact wpAny_pure (hR s' (hm.mono up) (keep hm hS)))
  | succ k ih =>
    intro i s hk hi st hS hR
    have lt : i < n := by omega
    refine codeAny_builtin PyProof.Rows.F.entry_set_update_loop ?_
    rw [Around.under_plainId PyProof.Rows.F.plain_set_update_loop _]
    show wpAny _ A.in1 (pyNext (.ref I) >>= _) _ _ s
    refine wpAny_bind (W.item i s _ _ lt st fun v s' hP st' hm => ?_)
    obtain ⟨x, t, hx, rfl⟩ := hv i v hP
    have hS1 : s'.heap.SetOf (PySem.strKind prog w) Sa (inTk xs i) i := keep hm hS
    show wpAny _ A.in1 (holding [Value.str x t] (setAdd Sa (.str x t)) >>= _) _ _ s'
    refine wpAny_bind (wpAny_holding ?_)
    unfold setAdd
    refine wpAny_holding (wpAny_bind ((PySem.strKind prog w).pyHash (k := x) (strKind_is _ _ _ _) ?_))
    refine wpAny_setAddHashed_of (knd := PySem.strKind prog w) (s := { s' with toks := s'.toks + 1 }) (strKind_is _ _ _ _) rfl hS1 (by unfold scanBound; omega) fun h' sb hS2 => ?_
    have new : inTk xs i x = false := decide_eq_false fun m => by
      obtain ⟨j, hj⟩ := List.mem_iff_getElem?.mp m
      rw [List.getElem?_take] at hj
      by_cases hji : j < i
      · rw [if_pos hji] at hj
        exact absurd (nd_ix nd hj hx) (by omega)
      · rw [if_neg hji] at hj
        cases hj
    have hS3 : h'.SetOf (PySem.strKind prog w) Sa (inTk xs (i + 1)) (i + 1) := PyProof.Rows.SetOf_congr hS2 (fun y => by
      unfold inTk
      rw [List.take_add_one, hx, ← Bool.decide_or]
      simp) (by rw [new]; rfl)
    refine wpAny_pure ⟨plainId_quiet PyProof.Rows.F.plain_set_update_loop _, ih (i + 1) _ (by omega) lt (W.frame _ s' _ _ st' (Nat.le_succ _) fun b hb o e => (sb.2 b fun h => nf (h ▸ hb)).trans e) hS3 fun s2 hm2 hS4 => ?_⟩
    exact hR s2 (Moved.trans W.gtrans ((hm.mono up).then_heap (Nat.le_succ _) fun b o hb e => (sb.2 b fun h => hb (h ▸ List.mem_cons_self)).trans e) hm2) hS4

variable {E : Value → Shared → Prop} {s : Shared}
theorem call_setT {l : Addr} {items : Array Value} {xs : List Str} {Q : Value → Shared → Prop} (hh : A.handled = none) (hl : s.heap.IsList l items) (hi : PyProof.Rows.StrsAre items.toList xs) (nd : xs.Nodup) (few : xs.length ≤ 1000)
    (h : ∀ (h' : Heap) (tk : Nat), h'.SetOf (PySem.strKind prog w) s.heap.objs.size (inTk xs xs.length) xs.length → (∀ b o, b < s.heap.objs.size → s.heap.get? b = some o → h'.get? b = some o) → Q (.ref s.heap.objs.size) { s with heap := h', toks := tk }) :
    wpAny (model prog w) A (call (.type "set") [.ref l]) Q E s := by
  have hsz : xs.length = items.size := by rw [← StrsAre.len_eq hi, Array.length_toList]
  obtain ⟨c, tl, hmro⟩ := PySem.F.called_set.mro
  have hmade := PySem.F.called_set.made
  have hsub := PySem.F.called_set.sub
  refine wpAny_call (codeAny_of_tree ?_)
  show wpAny _ _ (callAny (.type "set") _) _ _ _
  refine wpAny_pure ⟨Code.quiet_builtin _ (by decide +kernel), codeAny_builtin PySem.F.entry_type_call ?_⟩
  rw [Around.under_plain (weight_type_call_type "set" [.ref l] []) rfl]
  have f1 := PySem.F.called_set.notType
  have f2 := PySem.F.called_set.canCreate
  have f3 := PySem.F.typeCall_set_1 (.ref l)
  repeat (any_goals (first | assumption | wp_step))
  refine codeAny_mono (code_set_new_1 (.ref l) (E := E) (Q₁ := fun obj s1 => ∃ led : Bool, obj = .ref s.heap.objs.size ∧ s1 = { s with heap := s.heap.push { cls := .type "set", dict := none, data := .set #[] 0 (.fresh 0 0 led) } }) fun led => ⟨led, rfl, rfl⟩) fun r s1 hr => ?_
  cases r with
  | error e => exact hr
  | ok fl =>
    cases fl with
    | ret obj =>
      obtain ⟨led, rfl, rfl⟩ := hr
      generalize e0 : s.heap.push { cls := .type "set", dict := none, data := .set #[] 0 (.fresh 0 0 led) } = h1
      have hS : h1.get? s.heap.objs.size = some { cls := .type "set", dict := none, data := .set #[] 0 (.fresh 0 0 led) } := by rw [← e0]; exact Heap.get?_push_size _ rfl
      have up1 : ∀ b o, s.heap.get? b = some o → h1.get? b = some o := fun b o q => by rw [← e0]; exact Heap.get?_push_of_some _ q
      have z1 : h1.objs.size = s.heap.objs.size + 1 := by rw [← e0]; exact Heap.size_push ..
      have hT : Shared.TypeIs { s with heap := h1 } (.ref s.heap.objs.size) "set" := ⟨_, hS, rfl⟩
      have hli := PySem.F.called_set.init.lookup
      have hbi := PySem.F.called_set.init.bind (.ref s.heap.objs.size)
      repeat (any_goals (first | assumption | wp_step))
      refine codeAny_mono (codeAny_call_builtin (R := wants (fun r s2 => r = .none ∧ ∃ h' tk, s2 = { s with heap := h', toks := tk } ∧ h'.SetOf (PySem.strKind prog w) s.heap.objs.size (inTk xs xs.length) xs.length ∧
          (∀ b o, b < s.heap.objs.size → s.heap.get? b = some o → h'.get? b = some o)) E) PySem.F.called_set.init.plain PySem.F.entry_set_init (check_set_init_1 hT ?_)) fun r2 s2 hr2 => ?_
      · obtain ⟨⟨ocls, odict, odata, oslots⟩, hol, hcl, nl, hdl⟩ := hl
        simp only at hcl hdl
        subst hcl hdl
        have hol1 := up1 l _ hol
        have b1 := PySem.F.sub_list_set
        have b2 := PySem.F.sub_list_frozenset
        have b3 : (Value.type "list" == Value.type "dict") = false := by decide
        have hl1 : h1.IsList l items := ⟨_, hol1, rfl, nl, rfl⟩
        unfold Builtin.«set.__init__» noKeywords Builtin.Frozenset.updateFrom
        generalize hPI : pyIter = PI
        wp_walk
        subst hPI
        refine wpAny_pyIter_list hl1 (wpAny_bind (wpAny_runValue ?_))
        have lS : l < s.heap.objs.size := Heap.lt_size hol
        have hh3 : A.in1.in1.in1.handled = none := by simp [hh]
        have nI : l ≠ h1.objs.size := by rw [z1]; exact Nat.ne_of_lt (Nat.lt_succ_of_lt lS)
        have nS : s.heap.objs.size ∉ [h1.objs.size, l] := by
          rw [z1]
          simp only [List.mem_cons, List.not_mem_nil, or_false, not_or]
          exact ⟨Nat.ne_of_lt (Nat.lt_succ_self _), Nat.ne_of_gt lS⟩
        have hv : ∀ (i : Nat) (v : Value), items[i]? = some v → ∃ x t, xs[i]? = some x ∧ v = .str x t := fun i v q => by
          have q2 : items.toList[i]? = some v := by rw [Array.getElem?_toList]; exact q
          obtain ⟨t, e⟩ := SS.strs_at hi i v q2
          have il : i < xs.length := by
            have z := (List.getElem?_eq_some_iff.mp q2).1
            rw [Array.length_toList] at z
            omega
          rw [List.getD_eq_getElem?_getD, List.getElem?_eq_getElem il] at e
          exact ⟨xs[i], t, List.getElem?_eq_getElem il, e⟩
        refine set_loopT ((Walks.list hh3 _ l nI items).toS) s.heap.objs.size nS xs hsz nd (by omega) hv (items.size - 0) 0 _ (by omega) (Nat.zero_le _) ⟨⟨_, Heap.get?_push_size _ rfl, rfl, rfl⟩, hl1.push _⟩ ?_ fun s3 hm hS3 => ?_
        · have g : (h1.push { cls := .type "list_iterator", data := .fields #[.ref l, .int 0 0] }).get? s.heap.objs.size = _ := Heap.get?_push_of_some _ hS
          exact PyProof.Rows.SetOf_congr ((PyProof.Rows.setObjOf_fresh (knd := PySem.strKind prog w) led).setOf g (by unfold scanBound; omega)) (fun _ => rfl) rfl
        · obtain ⟨h', g', d', tk', os'⟩ := s3
          obtain rfl : g' = s.gens := hm.gens
          obtain rfl : d' = s.drawn := hm.drawn
          obtain rfl : os' = s.os := hm.os
          show wpAny _ _ _ _ _ _
          refine wpAny_pure ?_
          show wpAny _ _ (ret Value.none) _ _ _
          refine wpAny_pure ⟨rfl, h', tk', rfl, by rw [hsz]; exact hS3, fun b o hb e => hm.heap b o ?_ (Heap.get?_push_of_some _ (up1 b o e))⟩
          rw [z1]
          simp only [List.mem_cons, List.not_mem_nil, or_false, not_or]
          exact ⟨Nat.ne_of_lt hb, Nat.ne_of_lt (Nat.lt_succ_of_lt hb)⟩
      · cases r2 with
        | error e => exact hr2
        | ok f2 =>
          cases f2 with
          | ret r =>
            obtain ⟨rfl, h', tk, rfl, hS', hk'⟩ := hr2
            repeat (any_goals (first | assumption | wp_step))
            exact h _ _ hS' hk'
          | _ => exact hr2.elim
    | _ => exact hr.elim
end
def tLenSetT (K : PySem.W.Frag) (ta : TE) : TE := fun σ H Q => ta σ H fun x H1 => ∃ (l : Addr) (ns : List Str), x = .ref l ∧ SqL K H1 l (ns.map V.str) ∧ ns.Nodup ∧ ns.length ≤ 1000 ∧ Q (.int (ns.length : Nat)) H1
theorem pe_lenSetS {X : Cx} {a : Expr} {ta : TE} {p p2 q pos : Pos} (hc : X.calm = true) (hg : Gl X "len") (hm : X.mg "len" = none) (hg2 : Gl X "set") (hm2 : X.mg "set" = none) (ha : PE X a ta)
    (na : starEach [a] X.env = (false, eval a X.env) :: starEach [] X.env := by rfl) : PE X (.Call (.Name "len" p) [.Call (.Name "set" p2) [a] [] q] [] pos) (tLenSetT X.K ta) := by
  refine ⟨fun pins s σ H Q I h => ?_⟩
  refine Call_ (ld_blt I hg hm boot_len (PyProof.Rows.callWith_builtin1 (PyProof.Rows.args_cons ?_ rfl) rfl rfl))
  refine Call_ (ld_blt I hg2 hm2 boot_set ?_)
  refine PyProof.Rows.callWith_type1 (PyProof.Rows.args_cons (thn (ha.run pins s σ H _ I h) fun v s1 ⟨x, H1, I1, r1, l, ns, ex, hq, nd, few, q1⟩ => PyProof.Rows.args_nil ?_) na) na rfl
  subst ex
  cases r1
  obtain ⟨its, r, pl, hz⟩ := I1.list hq
  refine call_setT (I1.ok.hd hc) pl.isList (by simpa using strsAre_of r) nd few fun h' tk hS hk => PyProof.Rows.args_nil ?_
  obtain ⟨o, es, ep, t, ho, hex, hd, _, _, _, hf, hn⟩ := hS
  have I2 : Inv X pins σ H1 { s1 with heap := h', toks := tk } := I1.kept fun b o e => hk b o (Heap.lt_size e) e
  exact call_len_set ho hex hd hf (by rw [hn] <;> omega) ⟨.int ns.length, H1, I2.tok _, ⟨_, by rw [hn]⟩, q1⟩
theorem e_lenSet {Γ : Env} {w : Wd} {ta : TE} {K : PySem.W.Frag} {xs : List Str} (nd : xs.Nodup) (few : xs.length ≤ 1000) (h : E ta Γ w (sLst (fun x : Str => sStr x) xs)) : E (tLenSetT K ta) Γ w (sNat xs.length) := fun σ w1 l o Q q =>
  h σ w1 l o _ fun v w2 l2 p => by
    obtain ⟨a, vs, rfl, ha, r⟩ := p
    have ev : vs = xs.map V.str := r.sV_eq
    rw [ev] at ha
    exact ⟨a, xs, rfl, SqL.of (w2.sub _ _ ha), nd, few, q _ w2 l2 rfl⟩
end R40

set_option Elab.async false
set_option linter.all false
set_option maxRecDepth 100000
set_option maxHeartbeats 4000000
/-! Walks: meet and its kin. -/
namespace R40
open PySem PySem.Spec PyProof.Rows L2 M40
section
variable {P : Program} {w : World} {K : PySem.W.Frag} {mg : Str → Option Value} {base : Heap}
theorem zipWith_take {a b : List Nat} {i : Nat} {p : Nat × Nat} (h : (a.zip b)[i]? = some p) : List.zipWith (· &&& ·) (a.take i) (b.take i) ++ [p.1 &&& p.2] = List.zipWith (· &&& ·) (a.take (i + 1)) (b.take (i + 1)) := by
  obtain ⟨h1, h2⟩ := zip_at h
  rw [List.take_add_one, List.take_add_one, h1, h2]
  have l1 := (List.getElem?_eq_some_iff.mp h1).1
  have l2 := (List.getElem?_eq_some_iff.mp h2).1
  rw [List.zipWith_append (by rw [List.length_take, List.length_take]; omega)]
  rfl
/-- two sketches of one length, masks not empty in the meet -/
abbrev spMeet : Sp := spP (fun x : List Nat × List Nat => x.1.length ≤ 1000) (fun x => [sNs x.1, sNs x.2]) (fun x => sOpt sNs (meetF x.1 x.2))
theorem ok_meet (T : Txt K mg) : Ok_meet P w K mg base spMeet := by
  refine okP T.f_meet sc_meet (fun _ => rfl) fun cdv A outer s H E hr => ⟨_, (pss_cons (ps_set (i := 2) sc_meet.nd rfl (Or.inl rfl) (pe_lst pa_nil)) (pss_cons (ps_for PassesOwn.never rfl (RZ.pi_zipA (by rfl) T.n_zip (pa_cons (pv 0) (pa_cons (pv 1) pa_nil))) (pg_tup rfl (pgs_cons (pg_name (i := 3) sc_meet.nd rfl (Or.inl rfl)) (pgs_cons (pg_name (i := 4) sc_meet.nd rfl (Or.inl rfl)) pgs_nil))) (pss_cons (ps_if (pt_cmpR op_eq (pe_op op_and (pv 3) (pv 4)) pe_int (nomark _)) (pss_one (ps_ret pe_non)) pss_nil) (pss_one (ps_expr (pe_bm PySem.F.plainAttrs_list PySem.F.slot_list_append PySem.F.type_list_append mt_append (pv 2) (pa_cons (pe_op op_and (pv 3) (pv 4)) pa_nil)))))) (pss_one (ps_ret (pe_callTy call_tuple_of (by rfl) T.n_tuple (by decide +kernel) (pa_cons (pv 2) pa_nil)))))), ?_⟩
  rintro ⟨a, b⟩ w0 σ Q (hl : a.length ≤ 1000) o k
  have o : EnvOk w0.G σ [some (sNs a), some (sNs b), none, none, none] := o
  refine seq (s_setL (R := fun n : Nat => sNat n) (xs := []) o el_nil fun l vs σ1 w1 l1 n1 g1 h1 r1 o1 => ?_)
  have ow := Own.mk0 (w0 := w0) .refl l1 n1 g1 h1 r1
  refine seq (s_for o1 (i_zipTT (e_var rfl) (e_var rfl)) (fun p => b_t2 b_name b_name)
    (fun _ => [some (sNs a), some (sNs b), some (sRef l), none, none]) (fun i w2 => Own w0 l (fun n : Nat => sNat n) (List.zipWith (· &&& ·) (a.take i) (b.take i)) w2 ∧ 0 ∉ List.zipWith (· &&& ·) (a.take i) (b.take i))
    (fun _ _ _ h l => ⟨h.1.up l, h.2⟩) (fun w2 l2 o2 => ⟨o2, ow.up l2, List.not_mem_nil⟩) (fun i p σ2 w2 hp o2 h2 N hN => ?_) (fun σ2 w2 o2 h2 => ?_))
  · obtain ⟨ow2, nz⟩ := h2
    refine seq (s_if o2 (t_eqN (e_and (a := p.1) (b := p.2) (e_var rfl) (e_var rfl)) (e_n 0 0)) (fun e w3 l3 o3 => ?_) (fun e w3 l3 o3 => ?_))
    · have e0 : p.1 &&& p.2 = 0 := beq_iff_eq.mp e
      refine s_ret o3 e_c fun v w4 l4 pv => k v w4 ((ow2.up l3).le.trans l4) ?_
      have hm : meetF a b = none := by
        unfold meetF
        refine if_pos ?_
        rw [← e0]
        refine List.mem_iff_getElem?.mpr ⟨i, ?_⟩
        obtain ⟨h1, h2⟩ := zip_at hp
        rw [List.getElem?_zipWith, h1, h2]
      rw [show ((a, b) : List Nat × List Nat).1 = a from rfl, show ((a, b) : List Nat × List Nat).2 = b from rfl, hm]
      exact pv
    · have e0 : ¬ p.1 &&& p.2 = 0 := by simpa using e
      refine s_app o3 (ow2.up l3) (by rw [List.length_zipWith, List.length_take]; omega) (e_var rfl) (e_and (a := p.1) (b := p.2) (e_var rfl) (e_var rfl)) fun w4 l4 ow4 o4 => ?_
      rw [zipWith_take hp] at ow4
      refine hN σ2 w4 _ o4 (fun o => (o.drop 3).drop 4) ⟨ow4, ?_⟩ (fun a u z => l4.g a u (l3.g a u z))
      rw [← zipWith_take hp, List.mem_append]
      exact fun q => q.elim nz fun z => e0 (List.mem_singleton.mp z).symm
  · obtain ⟨ow2, nz⟩ := h2
    refine s_ret o2 (e_tupOw ow2 (e_var rfl)) fun v w3 l3 pv => k v w3 (ow2.le.trans l3) ?_
    have hlen : (List.zip a b).length = min a.length b.length := List.length_zip
    have ea : List.zipWith (· &&& ·) (a.take (a.zip b).length) (b.take (a.zip b).length) = List.zipWith (· &&& ·) a b := by
      rw [hlen, ← List.take_zipWith]
      exact List.take_of_length_le (by rw [List.length_zipWith]; exact Nat.le_refl _)
    rw [ea] at pv nz
    have hm : meetF a b = some (List.zipWith (· &&& ·) a b) := if_neg nz
    show (sOpt sNs (meetF a b)).P w3.G v
    rw [hm]
    exact pv
end
end R40

set_option Elab.async false
set_option linter.all false
set_option maxRecDepth 100000
set_option maxHeartbeats 4000000
/-! Instances, fixed tuples, made objects; the data's slots. -/
namespace R40
open PySem PySem.Spec PyProof.Rows L2 M40

/-- an instance's attributes, one by one -/
inductive FlR (G : Hp) : List (Str × V) → List (Str × Slot) → Prop where
  | nil : FlR G [] []
  | cons {f : Str} {v : V} {s : Slot} {vs : List (Str × V)} {fs : List (Str × Slot)} : s.P G v → FlR G vs fs → FlR G ((f, v) :: vs) ((f, s) :: fs)
theorem FlR.mono {G G' : Hp} {vs : List (Str × V)} {fs : List (Str × Slot)} (k : ∀ a o, G a = some o → G' a = some o) (h : FlR G vs fs) : FlR G' vs fs := by
  induction h with
  | nil => exact .nil
  | cons a _ ih => exact .cons (Slot.mono _ k a) ih
theorem FlR.look {G : Hp} {f : Str} {s : Slot} {vs : List (Str × V)} {fs : List (Str × Slot)} (h : FlR G vs fs) (e : fs.lookup f = some s) : ∃ v, vs.lookup f = some v ∧ s.P G v := by
  induction h with
  | nil => cases e
  | @cons g v t vs fs a _ ih =>
    rw [List.lookup_cons] at e ⊢
    cases q : (f == g) with
    | true =>
      rw [q] at e
      have e2 : t = s := Option.some.inj e
      subst e2
      exact ⟨v, rfl, a⟩
    | false =>
      rw [q] at e
      exact ih e
theorem FlR.no {G : Hp} {f : Str} {vs : List (Str × V)} {fs : List (Str × Slot)} (h : FlR G vs fs) (e : fs.lookup f = none) : vs.lookup f = none := by
  induction h with
  | nil => rfl
  | @cons g v t vs fs a _ ih =>
    rw [List.lookup_cons] at e ⊢
    cases q : (f == g) with
    | true =>
      rw [q] at e
      cases e
    | false =>
      rw [q] at e
      exact ih e
theorem FlR.length {G : Hp} {vs : List (Str × V)} {fs : List (Str × Slot)} (h : FlR G vs fs) : vs.length = fs.length := by
  induction h with
  | nil => rfl
  | cons _ _ ih => rw [List.length_cons, List.length_cons, ih]
theorem FlR.put {G : Hp} {f : Str} {y : V} {s : Slot} {vs : List (Str × V)} {fs : List (Str × Slot)} (h : FlR G vs fs) (hf : ¬ f ∈ fs.map (·.1)) (hy : s.P G y) : FlR G (putF f y vs) (fs ++ [(f, s)]) := by
  induction h with
  | nil => exact .cons hy .nil
  | @cons g v t vs fs a _ ih =>
    have ne : ¬ g = f := fun e => hf (by rw [e]; exact List.mem_cons_self)
    show FlR G (if g = f then (g, y) :: vs else (g, v) :: putF f y vs) ((g, t) :: (fs ++ [(f, s)]))
    rw [if_neg ne]
    exact .cons a (ih fun m => hf (List.mem_cons_of_mem _ m))
/-- a stable instance of the class at C -/
def sObj (C : Addr) (fs : List (Str × Slot)) : Slot :=
  ⟨fun G v => ∃ a dx vs, v = .ref a ∧ G a = some (.ins C dx vs) ∧ FlR G vs fs, fun k ⟨a, dx, vs, e, h, r⟩ => ⟨a, dx, vs, e, k a _ h, r.mono k⟩⟩
def sAny : Slot := ⟨fun _ _ => True, fun _ h => h⟩
section
variable {Γ : Env} {w : Wd} {s t u : Slot} {te ta tb tc : TE} {tt tu : TT} {K : PySem.W.Frag} {C : Addr} {f : Str}
theorem e_any (h : E te Γ w s) : E te Γ w sAny := h.imp fun _ _ _ => trivial
theorem e_fld {fs : List (Str × Slot)} (hc : Cls K C) (hn : NoAttr K C f) (hl : fs.lookup f = some s) (ha : E ta Γ w (sObj C fs)) : E (tFld K ta f) Γ w s := fun σ w1 l o Q q =>
  ha σ w1 l o _ fun v w2 l2 p => by
    obtain ⟨a, dx, vs, rfl, h, r⟩ := p
    obtain ⟨v, hv, pv⟩ := r.look hl
    exact ⟨a, C, dx, vs, v, rfl, w2.sub _ _ h, hc, hn, hv, q v w2 l2 pv⟩
theorem e_ix2a (ha : E ta Γ w (sT2 s t)) : E (tOp (rIxT K) ta (tC (.int 0))) Γ w s := fun σ w1 l o Q q =>
  ha σ w1 l o _ fun v w2 l2 p => by
    obtain ⟨a, x, y, rfl, h, px, py⟩ := p
    exact ⟨a, [x, y], 0, x, rfl, rfl, SqT.of (w2.sub _ _ h), rfl, q x w2 l2 px⟩
theorem e_ix2b (ha : E ta Γ w (sT2 s t)) : E (tOp (rIxT K) ta (tC (.int 1))) Γ w t := fun σ w1 l o Q q =>
  ha σ w1 l o _ fun v w2 l2 p => by
    obtain ⟨a, x, y, rfl, h, px, py⟩ := p
    exact ⟨a, [x, y], 1, y, rfl, rfl, SqT.of (w2.sub _ _ h), rfl, q y w2 l2 py⟩
theorem e_ix3a (ha : E ta Γ w (sT3 s t u)) : E (tOp (rIxT K) ta (tC (.int 0))) Γ w s := fun σ w1 l o Q q =>
  ha σ w1 l o _ fun v w2 l2 p => by
    obtain ⟨a, x, y, z, rfl, h, px, py, pz⟩ := p
    exact ⟨a, [x, y, z], 0, x, rfl, rfl, SqT.of (w2.sub _ _ h), rfl, q x w2 l2 px⟩
theorem e_ix3b (ha : E ta Γ w (sT3 s t u)) : E (tOp (rIxT K) ta (tC (.int 1))) Γ w t := fun σ w1 l o Q q =>
  ha σ w1 l o _ fun v w2 l2 p => by
    obtain ⟨a, x, y, z, rfl, h, px, py, pz⟩ := p
    exact ⟨a, [x, y, z], 1, y, rfl, rfl, SqT.of (w2.sub _ _ h), rfl, q y w2 l2 py⟩
theorem e_ix3c (ha : E ta Γ w (sT3 s t u)) : E (tOp (rIxT K) ta (tC (.int 2))) Γ w u := fun σ w1 l o Q q =>
  ha σ w1 l o _ fun v w2 l2 p => by
    obtain ⟨a, x, y, z, rfl, h, px, py, pz⟩ := p
    exact ⟨a, [x, y, z], 2, z, rfl, rfl, SqT.of (w2.sub _ _ h), rfl, q z w2 l2 pz⟩
theorem b_any {i : Nat} : B (gName i) sAny [i] (fun Γ => Γ.set i (some sAny)) := b_name
/-- slices and sums of stable tuples -/
theorem e_slA {α : Type} {R : α → Slot} {xs : List α} {i : Nat} (ha : E ta Γ w (sTup R xs)) (hb : E tb Γ w (sNat i)) : E (tSl (rSlA K) ta (tPart tb) tNoPart) Γ w (sTup R (xs.drop i)) := fun σ w1 l o Q q =>
  ha σ w1 l o _ fun v w2 l2 p => hb σ w2 (l.trans l2) (o.up l2) _ fun y w3 l3 p' => by
    obtain ⟨a, vs, rfl, h, r⟩ := Slot.up l3 p
    have hy : y = .int (i : Int) := p'
    have e1 : HT.sIx vs.length 0 (some (i : Int)) = min i vs.length := HT.sIx_nat _ _ _
    have e2 : HT.sIx vs.length vs.length none = vs.length := rfl
    have ec : cutV vs (some (i : Int)) none = vs.drop i := by
      unfold cutV
      rw [e1, e2]
      by_cases hi : i ≤ vs.length
      · rw [Nat.min_eq_left hi]
        exact List.take_of_length_le (by rw [List.length_drop]; exact Nat.le_refl _)
      · rw [Nat.min_eq_right (by omega), List.drop_eq_nil_of_le (Nat.le_refl _), List.drop_eq_nil_of_le (by omega), List.take_nil]
    refine ⟨_, hy, a, vs, rfl, SqT.of (w3.sub _ _ h), fun hw => ?_, fun _ b nb => ?_⟩
    · rw [e1] at hw
      have hi : min i vs.length = 0 := hw.1
      have ed : vs.drop i = vs := by
        by_cases h0 : i = 0
        · rw [h0]; rfl
        · have : vs.length = 0 := by omega
          rw [List.eq_nil_of_length_eq_zero this, List.drop_nil]
      have ex : xs.drop i = xs := by
        by_cases h0 : i = 0
        · rw [h0]; rfl
        · have : xs.length = 0 := by rw [← r.len]; omega
          rw [List.eq_nil_of_length_eq_zero this, List.drop_nil]
      rw [ex] at q
      exact q _ w3 (l2.trans l3) ⟨a, vs, rfl, h, r⟩
    · rw [ec]
      exact q (.ref b) (w3.new b (.tup (vs.drop i))) (l2.trans (l3.trans (Wd.le_new nb))) ⟨b, _, rfl, upd_same, (r.drop i).mono (Wd.le_new (o := .tup (vs.drop i)) nb).g⟩
theorem e_slB {α : Type} {R : α → Slot} {xs : List α} {i : Nat} (ha : E ta Γ w (sTup R xs)) (hb : E tb Γ w (sNat i)) : E (tSl (rSlA K) ta tNoPart (tPart tb)) Γ w (sTup R (xs.take i)) := fun σ w1 l o Q q =>
  ha σ w1 l o _ fun v w2 l2 p => hb σ w2 (l.trans l2) (o.up l2) _ fun y w3 l3 p' => by
    obtain ⟨a, vs, rfl, h, r⟩ := Slot.up l3 p
    have hy : y = .int (i : Int) := p'
    have e1 : HT.sIx vs.length vs.length (some (i : Int)) = min i vs.length := HT.sIx_nat _ _ _
    have e2 : HT.sIx vs.length 0 none = 0 := rfl
    have ec : cutV vs none (some (i : Int)) = vs.take i := by
      unfold cutV
      rw [e1, e2, List.drop_zero, Nat.sub_zero]
      by_cases hi : i ≤ vs.length
      · rw [Nat.min_eq_left hi]
      · rw [Nat.min_eq_right (by omega), List.take_of_length_le (Nat.le_refl _), List.take_of_length_le (by omega)]
    refine ⟨_, hy, a, vs, rfl, SqT.of (w3.sub _ _ h), fun hw => ?_, fun _ b nb => ?_⟩
    · rw [e1] at hw
      have hi : vs.length ≤ i := by have := hw.2; omega
      have ex : xs.take i = xs := List.take_of_length_le (by rw [← r.len]; exact hi)
      rw [ex] at q
      exact q _ w3 (l2.trans l3) ⟨a, vs, rfl, h, r⟩
    · rw [ec]
      exact q (.ref b) (w3.new b (.tup (vs.take i))) (l2.trans (l3.trans (Wd.le_new nb))) ⟨b, _, rfl, upd_same, (r.take i).mono (Wd.le_new (o := .tup (vs.take i)) nb).g⟩
theorem e_catA {α : Type} {R : α → Slot} {xs ys : List α} (hz : xs.length + ys.length ≤ 100000) (ha : E ta Γ w (sTup R xs)) (hb : E tb Γ w (sTup R ys)) : E (tOp (rCatA K) ta tb) Γ w (sTup R (xs ++ ys)) :=
  e_op ha hb fun w2 v y Q _ p p' q => by
    obtain ⟨a, vs, rfl, h, r⟩ := p
    obtain ⟨b, us, rfl, h', r'⟩ := p'
    refine ⟨a, b, vs, us, rfl, rfl, SqT.of (w2.sub _ _ h), SqT.of (w2.sub _ _ h'), by rw [r.len, r'.len]; exact Nat.le_trans hz (by decide), fun e => ?_, fun _ e => ?_, fun _ _ c nc => ?_⟩
    · have ex : xs = [] := AllR.nilL (e ▸ r)
      rw [ex] at q
      exact q _ w2 .refl ⟨b, us, rfl, h', r'⟩
    · have ey : ys = [] := AllR.nilL (e ▸ r')
      rw [ey, List.append_nil] at q
      exact q _ w2 .refl ⟨a, vs, rfl, h, r⟩
    · exact q (.ref c) (w2.new c (.tup (vs ++ us))) (Wd.le_new nc) ⟨c, _, rfl, upd_same, (r.append r').mono (Wd.le_new (o := .tup (vs ++ us)) nc).g⟩
/-- lists joined, repeated: a new one -/
theorem el_cat {α : Type} {R : α → Slot} {xs ys : List α} (hz : xs.length + ys.length ≤ 1000000) (ha : E ta Γ w (sLst R xs)) (hb : E tb Γ w (sLst R ys)) : EL (tOp rCat ta tb) Γ w R (xs ++ ys) := fun σ w1 l o Q q =>
  ha σ w1 l o _ fun v w2 l2 p => hb σ w2 (l.trans l2) (o.up l2) _ fun y w3 l3 p' => by
    obtain ⟨a, vs, rfl, h, r⟩ := Slot.up l3 p
    obtain ⟨b, us, rfl, h', r'⟩ := p'
    refine ⟨a, b, vs, us, rfl, rfl, w3.sub _ _ h, w3.sub _ _ h', by rw [r.len, r'.len]; exact Nat.le_trans hz (by decide), fun c nc => ?_⟩
    exact q c (vs ++ us) (w3.put c (.lst (vs ++ us)) (w3.gfree nc)) (l2.trans (l3.trans (Wd.le_put nc))) (l2.free (l3.free nc)) (w3.gfree nc) upd_same (r.append r')
theorem el_rep {α : Type} {R : α → Slot} {x : α} {n : Nat} (hn : n ≤ 100000) (ha : E ta Γ w (sLst R [x])) (hb : E tb Γ w (sNat n)) : EL (tOp rRep ta tb) Γ w R (List.replicate n x) := fun σ w1 l o Q q =>
  ha σ w1 l o _ fun v w2 l2 p => hb σ w2 (l.trans l2) (o.up l2) _ fun y w3 l3 p' => by
    obtain ⟨a, vs, rfl, h, r⟩ := Slot.up l3 p
    have hy : y = .int (n : Int) := p'
    obtain ⟨v0, hv0, _⟩ := r.get (i := 0) rfl
    have ev : vs = [v0] := by
      have := r.len
      match vs, hv0, this with
      | [z], e, _ => cases e; rfl
    subst ev
    have ex : (List.replicate (n : Int).toNat [v0]).flatten = List.replicate n v0 := by
      rw [Int.toNat_natCast]
      clear hy hb hn q p'
      induction n with
      | zero => rfl
      | succ k ih => rw [List.replicate_succ, List.flatten_cons, List.replicate_succ, ih]; rfl
    refine ⟨a, _, _, rfl, hy, w3.sub _ _ h, by omega, by omega, by show 1 * (n : Int).toNat ≤ sizeLine; rw [Int.toNat_natCast, Nat.one_mul]; exact Nat.le_trans hn (by decide), fun c nc => ?_⟩
    rw [ex]
    refine q c _ (w3.put c (.lst (List.replicate n v0)) (w3.gfree nc)) (l2.trans (l3.trans (Wd.le_put nc))) (l2.free (l3.free nc)) (w3.gfree nc) upd_same ⟨by rw [List.length_replicate, List.length_replicate], fun i v x e1 e2 => ?_⟩
    rw [List.getElem?_replicate] at e1 e2
    split at e1
    · rename_i hi
      rw [if_pos hi] at e2
      cases e1
      cases e2
      exact r.at_ 0 _ _ rfl rfl
    · cases e1
/-! ### objects made -/
/-- __init__'s promise: the attributes that stand behind it -/
def spI {ι : Type} (C : Addr) (pre : ι → Prop) (as : ι → List Slot) (fs : ι → List (Str × Slot)) : Sp := fun vs H Q _ => ∃ (x : ι) (w : Wd) (p dx : Addr) (us : List V), w.H = H ∧ vs = .ref p :: us ∧ pre x ∧ Args w.G us (as x) ∧
  w.H p = some (.ins C dx []) ∧ w.G p = none ∧ ∀ (w2 : Wd) (fvs : List (Str × V)), LeB [p] w w2 → w2.G p = none → w2.H p = some (.ins C dx fvs) → FlR w2.G fvs (fs x) → Q .non w2.H
/-- the world with a new instance at p, its dict at dx -/
abbrev Wd.made (w : Wd) (p dx C : Addr) (np : w.H p = none) (nd : w.H dx = none) (ne : dx ≠ p) : Wd := ⟨upd w.G dx (.own p), upd (upd w.H dx (.own p)) p (.ins C dx []), fun a o h => by
  by_cases e : a = dx
  · subst e
    rw [upd_same] at h
    exact keepU ne (by rw [upd_same]; exact h)
  · rw [upd_ne e] at h
    have h2 := w.sub a o h
    exact keepU (neN h2 np) (keepU e h2), fun a vs h => by
  by_cases e1 : a = p
  · rw [e1, upd_same] at h
    cases h
  · rw [upd_ne e1] at h
    by_cases e2 : a = dx
    · rw [e2, upd_same] at h
      cases h
    · rw [upd_ne e2] at h
      exact keepU e2 (w.tup a vs h)⟩
theorem Wd.le_made {w : Wd} {p dx C : Addr} {np : w.H p = none} {nd : w.H dx = none} {ne : dx ≠ p} : Le w (w.made p dx C np nd ne) :=
  ⟨fun a o h => keepU (neN (w.sub a o h) nd) h, fun a o _ h => keepU (neN h np) (keepU (neN h nd) h), fun a o _ h n => keepU (neN h nd) n⟩
theorem Wd.made_g {w : Wd} {p dx C : Addr} {np : w.H p = none} {nd : w.H dx = none} {ne : dx ≠ p} : (w.made p dx C np nd ne).G p = none := keepU (Ne.symm ne) (w.gfree np)
theorem Wd.made_h {w : Wd} {p dx C : Addr} {np : w.H p = none} {nd : w.H dx = none} {ne : dx ≠ p} : (w.made p dx C np nd ne).H p = some (.ins C dx []) := upd_same
theorem e_make {ι : Type} {pre : ι → Prop} {as : ι → List Slot} {fs : ι → List (Str × Slot)} {X : XK} {ta : TA} (x : ι) (hp : pre x) (h : EA ta Γ w (as x)) : E (tMake C (spI C pre as fs) [] X ta) Γ w (sObj C (fs x)) := fun σ w1 l o Q q =>
  h σ w1 l o _ fun vs w2 l2 a p dx np nd ne => by
    refine ⟨x, w2.made p dx C np nd ne, p, dx, vs, rfl, by rw [List.append_nil], hp, a.mono Wd.le_made.g, Wd.made_h, Wd.made_g, fun w3 fvs l3 g3 h3 r => ⟨rfl, ?_⟩⟩
    have l4 : Le w2 w3 := Wd.le_made.thenB l3 (fun b m => by rw [List.mem_singleton.mp m]; exact np)
    exact q (.ref p) (w3.frz p (.ins C dx fvs) h3) (l2.trans (l4.frz g3 np)) ⟨p, dx, fvs, rfl, upd_same, r.mono fun b u e => keepU (neN e g3) e⟩
theorem okI {ι : Type} {pre : ι → Prop} {as : ι → List Slot} {fs : ι → List (Str × Slot)} {P : Program} {w : World} {mg : Str → Option Value} {base : Heap} {x qual : Str} {params : Arguments} {body : List Stmt} {scope : Scope} {f : Addr} {fd : FuncData} {N ps : List Str} {k : Nat}
    (F : FunD K x qual params body scope [] [] f fd) (S : FnScope N ps scope) (hl : ∀ x, (as x).length + 1 = ps.length)
    (hb : ∀ (cdv : Value) (A : Around) (outer : List PySem.Env) (s : Shared) (H : Hp) (E : XK), Room k (A.deeper (envOfC qual scope s.heap.objs.size f cdv)) →
      ∃ t, PSs (cxOf CX0 P w K mg base N qual scope f cdv A outer s H E).nox body t ∧
        ∀ (x : ι) (w0 : Wd) (p dx : Addr) (σ : L2.St) (Q : VK), pre x → EnvOk w0.G σ (some (sRef p) :: ((as x).map some ++ List.replicate (N.length - ((as x).length + 1)) none)) → w0.H p = some (.ins C dx []) → w0.G p = none →
          (∀ (w2 : Wd) (fvs : List (Str × V)), LeB [p] w0 w2 → w2.G p = none → w2.H p = some (.ins C dx fvs) → FlR w2.G fvs (fs x) → Q .non w2.H) → t { nx := fun _ H' => Q .non H', rt := Q } σ w0.H) :
    FnOk P w K mg base CX0 (k + 1) f fd ps (spI C pre as fs) := by
  refine F.ok S (fun vs H Q E h => ?_) (fun cdv A outer s H vs Q E hr h => ?_)
  · obtain ⟨x, w, p, dx, us, rfl, rfl, hp, a, _⟩ := h
    rw [List.length_cons, a.len, hl]
  · obtain ⟨x, w, p, dx, us, rfl, rfl, hp, a, hh, hg, k⟩ := h
    obtain ⟨t, ht, q⟩ := hb cdv A outer s w.H E hr
    exact ⟨t, ht.nox, q x w p dx _ Q hp (args_start (ss := sRef p :: as x) (.cons rfl a)) hh hg k⟩
/-- an instance of one's own -/
structure OwnI (w0 : Wd) (p C dx : Addr) (fs : List (Str × Slot)) (w : Wd) : Prop where
  le : LeB [p] w0 w
  g : w.G p = none
  at_ : ∃ vs, w.H p = some (.ins C dx vs) ∧ FlR w.G vs fs
theorem OwnI.up {w0 w1 w2 : Wd} {p dx : Addr} {fs : List (Str × Slot)} (h : OwnI w0 p C dx fs w1) (k : Le w1 w2) : OwnI w0 p C dx fs w2 := by
  obtain ⟨vs, a, r⟩ := h.at_
  exact ⟨h.le.trans (LeB.up k), k.own p _ List.not_mem_nil a h.g, vs, k.h p _ List.not_mem_nil a, r.mono k.g⟩
theorem OwnI.start {w0 : Wd} {p dx : Addr} (hh : w0.H p = some (.ins C dx [])) (hg : w0.G p = none) : OwnI w0 p C dx [] w0 := ⟨.refl, hg, [], hh, .nil⟩
/-- self.f = e, a new attribute -/
theorem s_fld {w0 : Wd} {p dx : Addr} {fs : List (Str × Slot)} {D : Ends} {σ : L2.St} (o : EnvOk w.G σ Γ) (ow : OwnI w0 p C dx fs w) (hc : Cls K C) (hn : NoAttr K C f) (hf : ¬ f ∈ fs.map (·.1)) (hz : fs.length < 1000) (ht : E te Γ w s) (ha : E ta Γ w (sRef p))
    (k : ∀ w2 : Wd, OwnI w0 p C dx (fs ++ [(f, s)]) w2 → EnvOk w2.G σ Γ → D.nx σ w2.H) : sFld K ta te f D σ w.H :=
  ht σ w .refl o _ fun y w1 l1 py => ha σ w1 l1 (o.up l1) _ fun v w2 l2 pv => by
    cases pv
    have ow2 := ow.up (l1.trans l2)
    obtain ⟨vs, a, r⟩ := ow2.at_
    refine ⟨p, C, dx, vs, rfl, a, hc, hn, by rw [r.length]; exact hz, ?_⟩
    have lb : LeB [p] w2 (w2.put p (.ins C dx (putF f y vs)) ow2.g) := Wd.leB_put (List.mem_singleton.mpr rfl)
    exact k (w2.put p (.ins C dx (putF f y vs)) ow2.g) ⟨ow2.le.trans lb, ow2.g, putF f y vs, upd_same, r.put hf (show s.P w2.G y from Slot.up l2 py)⟩ (((o.up l1).up l2).up lb)
end
/-! ### the data -/
abbrev sPr (p : Nat × Nat) : Slot := sT2 (sNat p.1) (sNat p.2)
def sSrc : Src → Slot
  | .put v => sT2 (sStr "set") (sNat v)
  | .copy c => sT2 (sStr "copy") (sNat c)
abbrev sChg (p : Nat × Src) : Slot := sT2 (sNat p.1) (sSrc p.2)
abbrev sDeedN (nm : Slot) (d : Deed) : Slot := sT3 nm (sTup sPr d.guard) (sTup sChg d.chg)
abbrev sDeed (d : Deed) : Slot := sDeedN sAny d
abbrev sCell (z : Nat) : Slot := sT2 sAny (sNat z)
abbrev sMach (K : PySem.W.Frag) (m : Mach) : Slot := sObj (He.ga K "Machine") [("cells", sTup sCell m.sizes), ("deeds", sTup sDeed m.deeds), ("first", sNs m.first)]
/-- where a deed's source is asked for its kind -/
def srcKind : Src → Str
  | .put _ => "set"
  | .copy _ => "copy"
def srcNum : Src → Nat
  | .put v => v
  | .copy c => c
theorem src_kind {r : Src} {G : Hp} {v : V} (h : (sSrc r).P G v) : (sT2 (sStr (srcKind r)) (sNat (srcNum r))).P G v := by
  cases r <;> exact h
end R40

set_option Elab.async false
set_option linter.all false
set_option maxRecDepth 100000
set_option maxHeartbeats 4000000
/-! Walks: masks, sketches. -/
namespace R40
open PySem PySem.Spec PyProof.Rows L2 M40
section
variable {P : Program} {w : World} {K : PySem.W.Frag} {mg : Str → Option Value} {base : Heap}
/-- 0 < mask < 1 << size -/
abbrev spIsMask : Sp := spP (fun x : Nat × Nat => x.2 ≤ 1000) (fun x => [sNat x.1, sNat x.2]) (fun x => sBl (decide (0 < x.1 ∧ x.1 < 2 ^ x.2)))
theorem ok_is_mask (T : Txt K mg) : Ok_is_mask P w K mg base spIsMask := by
  refine okP T.f_is_mask sc_is_mask (fun _ => rfl) fun cdv A outer s H E hr => ⟨_, (pss_one (ps_ret (pe_chain op_lt op_lt pe_int (pv 0) (pe_op op_shl pe_int (pv 1))))), ?_⟩
  rintro ⟨m, z⟩ w0 σ Q (hz : z ≤ 1000) o k
  have o : EnvOk w0.G σ [some (sNat m), some (sNat z)] := o
  refine s_ret o (e_chain (g := fun i j => decide (i < j)) (g' := fun i j => decide (i < j)) e_c (e_var rfl) (fun _ => e_shl (a := 1) (by decide) hz (e_n 1 1) (e_var rfl))) fun v w1 l1 pv => k v w1 l1 ?_
  have e : (decide ((0 : Int) < (m : Int)) && decide ((m : Int) < ((1 <<< z : Nat) : Int))) = decide (0 < m ∧ m < 2 ^ z) := by
    rw [Nat.shiftLeft_eq, Nat.one_mul, Bool.eq_iff_iff]
    simp only [Bool.and_eq_true, decide_eq_true_eq]
    omega
  rw [e] at pv
  exact pv
/-- Machine.full -/
abbrev spFull (K : PySem.W.Frag) : Sp := spP (fun m : Mach => OkM m) (fun m => [sMach K m]) (fun m => sNs (m.sizes.map fun z => 2 ^ z - 1))
theorem szs {m : Mach} (h : OkM m) {z : Nat} (hz : z ∈ m.sizes) : 1 ≤ z ∧ z ≤ 3 := by
  obtain ⟨i, hi, e⟩ := List.mem_iff_getElem.mp hz
  have q := h.size i hi
  unfold at0 at q
  rw [List.getD_eq_getElem?_getD, List.getElem?_eq_getElem hi, e] at q
  exact q
theorem ok_Machine_full (T : Txt K mg) : Ok_Machine_full P w K mg base (spFull K) := by
  refine okP T.f_Machine_full sc_Machine_full (fun _ => rfl) fun cdv A outer s H E hr => ⟨_, (pss_one (ps_ret (pe_callTy call_tuple_of (by rfl) T.n_tuple (by decide +kernel) (pa_cons (pe_lc (own := [("_", 1), ("size", 2)]) (g := (gTup K 2 (gCons (gName 1) (gCons (gName 2) gNil)))) (tt := tYes) (te := (tOp rMinus (tOp rShl (tC (.int 1)) (tVar 2)) (tC (.int 1)))) rfl sc_Machine_full.nd (pi_tup (pe_fld (pv 0) rfl)) (blkOk_by (own := [("_", 1), ("size", 2)]) (N := N_Machine_full) (sc := defScope st_Machine_full) (by decide +kernel)) (fun _ _ _ _ _ => (pg_tup rfl (pgs_cons (pg_name (i := 1) sc_Machine_full.nd rfl (Or.inl rfl)) (pgs_cons (pg_name (i := 2) sc_Machine_full.nd rfl (Or.inl rfl)) pgs_nil)))) (fun _ _ _ _ _ => pts_nil) (fun _ _ _ _ _ => (pe_op op_sub (pe_op op_shl pe_int (pv 2)) pe_int))) pa_nil)))), ?_⟩
  rintro m w0 σ Q hm o k
  have o : EnvOk w0.G σ [some (sMach K m), none, none] := o
  refine s_ret o (e_tupN (el_lcM (Z := fun n : Nat => sNat n) (fun z => 2 ^ z - 1) (i_tup (e_fld T.c_Machine T.a_Machine_cells rfl (e_var rfl))) (by have := hm.few; omega) (fun z => b_t2 b_name b_name) (by decide)
    (fun z hz => e_full (by have := (szs hm hz).2; omega) (e_var rfl)))) k
/-- check_sketch: nothing to complain -/
abbrev spCheckSketch (K : PySem.W.Frag) : Sp := spP (fun x : Mach × List Nat => OkM x.1 ∧ OkSk x.1.sizes x.2) (fun x => [sMach K x.1, sNs x.2]) (fun _ => sNon)
theorem at0_of {l : List Nat} {i x : Nat} (h : l[i]? = some x) : at0 l i = x := by
  unfold at0
  rw [List.getD_eq_getElem?_getD, h]
  rfl
theorem ok_check_sketch (T : Txt K mg) : Ok_check_sketch P w K mg base (spCheckSketch K) := by
  refine okP T.f_check_sketch sc_check_sketch (fun _ => rfl) fun cdv A outer s H E hr => ⟨_, (pss_cons (ps_if (pt_cmpR op_ne (pe_callB call_len_seq (by rfl) T.n_len boot_len (pa_cons (pv 1) pa_nil)) (pe_callB call_len_seq (by rfl) T.n_len boot_len (pa_cons (pe_fld (pv 0) rfl) pa_nil)) (nomark _)) (pss_one ps_never) pss_nil) (pss_one (ps_for PassesOwn.never rfl (RZ.pi_zipA (by rfl) T.n_zip (pa_cons (pv 1) (pa_cons (pe_fld (pv 0) rfl) pa_nil))) (pg_tup rfl (pgs_cons (pg_name (i := 2) sc_check_sketch.nd rfl (Or.inl rfl)) (pgs_cons (pg_tup rfl (pgs_cons (pg_name (i := 3) sc_check_sketch.nd rfl (Or.inl rfl)) (pgs_cons (pg_name (i := 4) sc_check_sketch.nd rfl (Or.inl rfl)) pgs_nil))) pgs_nil))) (pss_one (ps_if (pt_not (pt_val (pe_call (ok_is_mask T) (hr.mono (by decide)) rfl T.g_is_mask T.f_is_mask.kp T.b_is_mask .nil pass0 (pa_cons (pv 2) (pa_cons (pv 4) pa_nil))))) (pss_one ps_never) pss_nil))))), ?_⟩
  rintro ⟨m, sk⟩ w0 σ Q ⟨hm, hs⟩ o k
  have hm : OkM m := hm
  have hs : OkSk m.sizes sk := hs
  have o : EnvOk w0.G σ [some (sMach K m), some (sNs sk), none, none, none] := o
  refine seq (s_if o (t_neN (e_lenT (e_var rfl)) (e_lenT (e_fld T.c_Machine T.a_Machine_cells rfl (e_var rfl)))) (fun e => ?_) (fun e w1 l1 o1 => ?_))
  · rw [hs.1, bne_self_eq_false] at e
    cases e
  · refine s_for o1 (i_zipTT (R := fun n : Nat => sNat n) (S := sCell) (e_var rfl) (e_fld T.c_Machine T.a_Machine_cells rfl (e_var rfl))) (fun p => b_t2 b_name (b_t2 b_name b_name)) (fun _ => [some (sMach K m), some (sNs sk), none, none, none]) (fun _ w2 => Le w0 w2)
      (fun _ _ _ h l => h.trans l) (fun w2 l2 o2 => ⟨o2, l1.trans l2⟩) (fun i p σ2 w2 hp o2 h2 N hN => ?_) (fun σ2 w2 o2 h2 => k _ w2 h2 rfl)
    obtain ⟨q1, q2⟩ := zip_at hp
    have hi : i < m.sizes.length := (List.getElem?_eq_some_iff.mp q2).1
    have b1 := hs.2 i hi
    rw [at0_of q1, at0_of q2] at b1
    have b2 := hm.size i hi
    rw [at0_of q2] at b2
    refine s_if o2 (t_not (t_B (e_call (p.1, p.2) (by show p.2 ≤ 1000; omega) (ea_cons (e_var rfl) (ea_cons (e_var rfl) ea_nil))))) (fun e => ?_) (fun e w3 l3 o3 => ?_)
    · rw [decide_eq_true (show 0 < p.1 ∧ p.1 < 2 ^ p.2 from b1)] at e
      cases e
    · exact hN σ2 w3 _ o3 (fun o => ((o.drop 2).drop 3).drop 4) (h2.trans l3) l3.g
/-- masks side by side -/
abbrev spPacked : Sp := spP (fun s : List Nat => s.length ≤ 4 ∧ ∀ m ∈ s, m < 65536) (fun s => [sNs s]) (fun s => sNat (packF s))
theorem pack_lt : ∀ (s : List Nat) (p b : Nat), (∀ m ∈ s, m < 65536) → p < 2 ^ b → s.foldl (fun p m => (p <<< 16) ||| m) p < 2 ^ (b + 16 * s.length)
  | [], p, b, _, hp => by simpa using hp
  | m :: r, p, b, h, hp => by
    have h1 : (p <<< 16) ||| m < 2 ^ (b + 16) := Nat.or_lt_two_pow (by
      rw [Nat.shiftLeft_eq, Nat.pow_add]
      exact Nat.mul_lt_mul_of_pos_right hp (by decide)) (Nat.lt_of_lt_of_le (h m List.mem_cons_self) (by
      rw [Nat.pow_add]
      exact Nat.le_mul_of_pos_left _ (Nat.two_pow_pos b)))
    have h2 := pack_lt r _ (b + 16) (fun x hx => h x (List.mem_cons_of_mem _ hx)) h1
    rw [List.foldl_cons, List.length_cons, show b + 16 * (r.length + 1) = b + 16 + 16 * r.length by omega]
    exact h2
theorem ok_packed_sketch (T : Txt K mg) : Ok_packed_sketch P w K mg base spPacked := by
  refine okP T.f_packed_sketch sc_packed_sketch (fun _ => rfl) fun cdv A outer s H E hr => ⟨_, (pss_cons (ps_set (i := 1) sc_packed_sketch.nd rfl (Or.inl rfl) pe_int) (pss_cons (ps_for PassesOwn.never rfl (pi_tup (pv 0)) (pg_name (i := 2) sc_packed_sketch.nd rfl (Or.inl rfl)) (pss_one (ps_set (i := 1) sc_packed_sketch.nd rfl (Or.inl rfl) (pe_op op_or (pe_op op_shl (pv 1) (pe_glob (v := .int 16) rfl T.g_MOST_VALUES.choose_spec ⟨_, rfl⟩)) (pv 2))))) (pss_one (ps_ret (pv 1))))), ?_⟩
  rintro sk w0 σ Q ⟨hl, hm⟩ o k
  have o : EnvOk w0.G σ [some (sNs sk), none, none] := o
  refine seq (s_set (s := sNat 0) o e_c fun σ1 w1 l1 o1 => ?_)
  refine seq (s_for o1 (i_tup (e_var rfl)) (fun p => b_name) (fun i => [some (sNs sk), some (sNat (packF (sk.take i))), none]) (fun _ w2 => Le w0 w2)
    (fun _ _ _ h l => h.trans l) (fun w2 l2 o2 => ⟨o2, l1.trans l2⟩) (fun i p σ2 w2 hp o2 h2 N hN => ?_) (fun σ2 w2 o2 h2 => ?_))
  · have lt : packF (sk.take i) < 2 ^ 64 := by
      have q := pack_lt (sk.take i) 0 0 (fun m h => hm m (List.mem_of_mem_take h)) (by decide)
      have hi : i < sk.length := (List.getElem?_eq_some_iff.mp hp).1
      rw [List.length_take] at q
      exact Nat.lt_of_lt_of_le q (Nat.pow_le_pow_right (by decide) (by omega))
    refine s_set o2 (e_or (b := p) (e_shl (b := 16) lt (by decide) (e_var rfl) (e_n 16 16)) (e_var rfl)) fun σ3 w3 l3 o3 => ?_
    refine hN σ3 w3 _ o3 (fun o => ?_) (h2.trans l3) l3.g
    have ep : packF (sk.take (i + 1)) = (packF (sk.take i) <<< 16) ||| p := by
      unfold packF
      rw [List.take_add_one, hp, List.foldl_append]
      rfl
    rw [ep]
    exact o.drop 2
  · refine s_ret o2 (e_var (s := sNat (packF (sk.take sk.length))) rfl) fun v w3 l3 pv => k v w3 (h2.trans l3) ?_
    rw [List.take_length] at pv
    exact pv
end
end R40

set_option Elab.async false
set_option linter.all false
set_option maxRecDepth 100000
set_option maxHeartbeats 4000000
/-! Walks: what is left of a sketch. -/
namespace R40
open PySem PySem.Spec PyProof.Rows L2 M40
section
variable {P : Program} {w : World} {K : PySem.W.Frag} {mg : Str → Option Value} {base : Heap}
theorem opt_isN {α : Type} {R : α → Slot} (h : ∀ x G v, (R x).P G v → ¬ v = .non) (o : Option α) : ∀ G v, (sOpt R o).P G v → decide (v = V.non) = o.isNone := fun G v p => by
  cases o with
  | none => exact decide_eq_true p
  | some x => exact decide_eq_false (h x G v p)
theorem tup_ne {α : Type} {R : α → Slot} (xs : List α) : ∀ G v, (sTup R xs).P G v → ¬ v = .non := fun G v ⟨a, vs, e, _⟩ q => by
  rw [e] at q
  cases q
abbrev spSplit : Sp := spP (fun x : List Nat × List Nat => x.1.length ≤ 1000 ∧ x.1.length = x.2.length) (fun x => [sNs x.1, sNs x.2]) (fun x => sPiece (splitF x.1 x.2))
theorem meet_len {a b c : List Nat} (h : meetF a b = some c) : c.length = min a.length b.length := by
  unfold meetF at h
  split at h
  · cases h
  · rw [← Option.some.inj h, List.length_zipWith]
theorem ok__split (T : Txt K mg) : Ok__split P w K mg base spSplit := by
  refine okP T.f__split sc__split (fun _ => rfl) fun cdv A outer s H E hr => ⟨_, (pss_cons (ps_set (i := 2) sc__split.nd rfl (Or.inl rfl) (pe_call (ok_meet T) (hr.mono (by decide)) rfl T.g_meet T.f_meet.kp T.b_meet .nil pass0 (pa_cons (pv 0) (pa_cons (pv 1) pa_nil)))) (pss_cons (ps_if (pt_cmpR op_isN (pv 2) pe_non (nomark _)) (pss_one (ps_ret (pe_lst (pa_cons (pv 0) pa_nil)))) pss_nil) (pss_cons (ps_set (i := 3) sc__split.nd rfl (Or.inl rfl) (pe_lst pa_nil)) (pss_cons (ps_for PassesOwn.never rfl (pi_enumT (by rfl) T.n_enumerate (pa_cons (pv 0) pa_nil)) (pg_tup rfl (pgs_cons (pg_name (i := 4) sc__split.nd rfl (Or.inl rfl)) (pgs_cons (pg_name (i := 5) sc__split.nd rfl (Or.inl rfl)) pgs_nil))) (pss_cons (ps_set (i := 6) sc__split.nd rfl (Or.inl rfl) (pe_op op_xor (pv 5) (pe_ix ix_tup (pv 2) (pv 4) (fun _ _ => rfl)))) (pss_one (ps_if (pt_cmpR op_ne (pv 6) pe_int (nomark _)) (pss_one (ps_expr (pe_bm PySem.F.plainAttrs_list PySem.F.slot_list_append PySem.F.type_list_append mt_append (pv 3) (pa_cons (pe_op op_catA (pe_op op_catA (pe_slice sl_tupA (pv 2) po_none (po_some (pv 4))) (pe_tup (pa_cons (pv 6) pa_nil))) (pe_slice sl_tupA (pv 0) (po_some (pe_op op_add (pv 4) pe_int)) po_none)) pa_nil)))) pss_nil)))) (pss_one (ps_ret (pv 3))))))), ?_⟩
  rintro ⟨a, b⟩ w0 σ Q ⟨hl, hab⟩ o k
  have hl : a.length ≤ 1000 := hl
  have hab : a.length = b.length := hab
  have o : EnvOk w0.G σ [some (sNs a), some (sNs b), none, none, none, none, none] := o
  have k : ∀ v w2, Le w0 w2 → (sPiece (splitF a b)).P w2.G v → Q v w2.H := k
  refine seq (s_set o (e_call (a, b) hl (ea_cons (e_var rfl) (ea_cons (e_var rfl) ea_nil))) fun σ1 w1 l1 o1 => ?_)
  refine seq (s_if o1 (t_test (e_isN (meetF a b).isNone (opt_isN tup_ne _) (e_var rfl))) (fun e w2 l2 o2 => ?_) (fun e w2 l2 o2 => ?_))
  · have em : meetF a b = none := Option.isNone_iff_eq_none.mp e
    refine s_ret o2 (el_one (R := sNs) (x := a) (e_var rfl)).e fun v w3 l3 pv => k v w3 (l1.trans (l2.trans l3)) ?_
    unfold splitF
    rw [em]
    exact pv
  · obtain ⟨both, em⟩ : ∃ both, meetF a b = some both := by
      cases q : meetF a b with
      | none =>
        rw [q] at e
        cases e
      | some c => exact ⟨c, rfl⟩
    have lb : both.length = a.length := by rw [meet_len em]; omega
    rw [em] at o2
    have o2 : EnvOk w2.G σ1 [some (sNs a), some (sNs b), some (sNs both), none, none, none, none] := o2
    refine seq (s_setL (R := sNs) (xs := []) o2 el_nil fun l vs σ3 w3 l3 n3 g3 h3 r3 o3 => ?_)
    have ow := Own.mk0 (w0 := w0) (l1.trans l2) l3 n3 g3 h3 r3
    refine seq (s_for o3 (i_enumT (R := fun n : Nat => sNat n) (e_var rfl)) (fun p => b_t2 b_name b_name) (fun _ => [some (sNs a), some (sNs b), some (sNs both), some (sRef l), none, none, none])
      (fun i w4 => Own w0 l sNs (((List.range i).filter fun k => at0 a k ^^^ at0 both k != 0).map (splitPart a both)) w4) (fun _ _ _ h l => h.up l) (fun w4 l4 o4 => ⟨o4, ow.up l4⟩)
      (fun i p σ4 w4 hp o4 h4 N hN => ?_) (fun σ4 w4 o4 h4 => ?_))
    · obtain ⟨p1, p2⟩ := enumN_at hp
      have hi : i < a.length := (List.getElem?_eq_some_iff.mp p2).1
      have ea : at0 a i = p.2 := at0_of p2
      have hb : both[i]? = some (at0 both i) := by
        have q : both[i]? = some both[i] := List.getElem?_eq_getElem (by omega)
        rw [at0_of q]
        exact q
      refine seq (s_set o4 (e_xor (a := p.2) (b := at0 both i) (e_var rfl) (e_ixT hb (e_var rfl) (e_is (e_var (s := sNat p.1) rfl) (by rw [p1])))) fun σ5 w5 l5 o5 => ?_)
      have step : ∀ b, (at0 a i ^^^ at0 both i != 0) = b → ((List.range (i + 1)).filter fun k => at0 a k ^^^ at0 both k != 0).map (splitPart a both) =
          ((List.range i).filter fun k => at0 a k ^^^ at0 both k != 0).map (splitPart a both) ++ (if b then [splitPart a both i] else []) := fun b hb => by
        rw [List.range_succ, List.filter_append, List.map_append]
        congr 1
        rw [List.filter_cons, hb]
        cases b <;> rfl
      refine s_if o5 (t_neN (b := 0) (e_var (s := sNat (p.2 ^^^ at0 both i)) rfl) (e_n 0 0)) (fun e w6 l6 o6 => ?_) (fun e w6 l6 o6 => ?_)
      · rw [← ea] at e
        have ee : splitPart a both i = both.take i ++ [p.2 ^^^ at0 both i] ++ a.drop (i + 1) := by
          unfold splitPart
          rw [ea]
        refine s_app (x := splitPart a both i) o6 (h4.up (l5.trans l6)) ?_ (e_var rfl) (e_is (e_catA (xs := both.take i ++ [p.2 ^^^ at0 both i]) (ys := a.drop (i + 1)) ?_ (e_catA (xs := both.take i) (ys := [p.2 ^^^ at0 both i]) ?_
          (e_slB (e_var (s := sNs both) rfl) (e_is (e_var (s := sNat p.1) rfl) (by rw [p1]))) (e_tup1 (R := fun n : Nat => sNat n) (e_var rfl)))
          (e_slA (e_var (s := sNs a) rfl) (e_plus (a := i) (b := 1) (e_is (e_var (s := sNat p.1) rfl) (by rw [p1])) (e_n 1 1)))) (by rw [ee])) fun w7 l7 ow7 o7 => ?_
        · rw [List.length_map]
          have := List.length_filter_le (fun k => at0 a k ^^^ at0 both k != 0) (List.range i)
          rw [List.length_range] at this
          omega
        · rw [List.length_append, List.length_take, List.length_drop, List.length_singleton]
          omega
        · rw [List.length_take, List.length_singleton]
          omega
        · refine hN σ5 w7 _ o7 (fun o => ((o.drop 4).drop 5).drop 6) ?_ (fun b u z => l7.g b u (l6.g b u (l5.g b u z)))
          rw [step true e]
          exact ow7
      · refine hN σ5 w6 _ o6 (fun o => ((o.drop 4).drop 5).drop 6) ?_ (l5.trans l6).g
        rw [← ea] at e
        rw [step false e, if_neg (by decide), List.append_nil]
        exact h4.up (l5.trans l6)
    · rw [enumN_length] at h4
      refine s_retOw o4 h4 (e_var rfl) fun v w5 l5 pv => k v w5 l5 ?_
      unfold splitF
      rw [em]
      exact pv
/-- what is left without a piece: its length is told by the caller -/
abbrev spWithout : Sp := spP (fun x : List Nat × List (List Nat) => x.1.length ≤ 4 ∧ x.2.length ≤ 2 ∧ ∀ s ∈ x.2, s.length = x.1.length) (fun x => [sNs x.1, sPiece x.2]) (fun x => sPiece (withoutF x.1 x.2))
theorem splitPart_len {a both : List Nat} {k : Nat} (h : both.length = a.length) (hk : k < a.length) : (splitPart a both k).length = a.length := by
  unfold splitPart
  rw [List.length_append, List.length_append, List.length_take, List.length_drop, List.length_singleton]
  omega
theorem split_len {a b : List Nat} (h : a.length = b.length) : ∀ s ∈ splitF a b, s.length = a.length := by
  intro s hs
  unfold splitF at hs
  cases e : meetF a b with
  | none =>
    rw [e] at hs
    rw [List.mem_singleton.mp hs]
  | some both =>
    rw [e] at hs
    obtain ⟨k, hk, rfl⟩ := List.mem_map.mp hs
    have lb : both.length = a.length := by rw [meet_len e]; omega
    exact splitPart_len lb (List.mem_range.mp (List.mem_filter.mp hk).1)
theorem split_few {a b : List Nat} : (splitF a b).length ≤ a.length + 1 := by
  unfold splitF
  cases e : meetF a b with
  | none => simp
  | some both =>
    have := List.length_filter_le (fun k => at0 a k ^^^ at0 both k != 0) (List.range a.length)
    rw [List.length_range] at this
    show (List.map _ _).length ≤ _
    rw [List.length_map]
    omega
end
end R40

set_option Elab.async false
set_option linter.all false
set_option maxRecDepth 100000
set_option maxHeartbeats 4000000
/-! A comprehension of two fors; walks: without, values_of, least_disk. -/
namespace R40
open PySem PySem.Spec PyProof.Rows L2 M40
theorem yesT {Q : Bool → Hp → Prop} {σ : L2.St} {H : Hp} (h : Q true H) : tYes σ H Q := h
theorem el_lc2 {α β γ : Type} {Γ : Env} {w : Wd} {te : TE} {R : α → Slot} {S : β → Slot} {Z : γ → Slot} {xs : List α} {wi wi1 : TI} {g g1 : TG} {own js own1 js1 : List Nat} {f : α → Env → Env} {f1 : β → Env → Env} (ys : α → List β) (val : β → γ)
    (h : I wi Γ w xs R) (hg : ∀ x, B g (R x) js (f x)) (hjs : ∀ j ∈ js, j ∈ own) (h1 : ∀ x ∈ xs, I wi1 (f x (drops Γ own)) w (ys x) S) (hg1 : ∀ y, B g1 (S y) js1 (f1 y)) (hjs1 : ∀ j ∈ js1, j ∈ own1)
    (he : ∀ x ∈ xs, ∀ y ∈ ys x, E te (f1 y (drops (f x (drops Γ own)) own1)) w (Z (val y))) (hz : (xs.flatMap ys).length ≤ 1000000) : EL (tLc2 wi g tYes wi1 g1 tYes te own own1) Γ w Z ((xs.flatMap ys).map val) := fun σ w1 l o Q q =>
  h σ w1 l o _ fun J w2 l2 T Dd nD => by
    have gD : w2.G Dd = none := w2.gfree nD
    have st : Own w1 Dd Z ((([] : List α).flatMap ys).map val) (w2.put Dd (.lst []) gD) := ⟨l2.trans (Wd.le_put nD), l2.free nD, gD, [], upd_same, .nil⟩
    refine ⟨fun i m H' => ∃ w' : Wd, H' = w'.H ∧ m = xs.length - i ∧ i ≤ xs.length ∧ Own w1 Dd Z (((xs.take i).flatMap ys).map val) w' ∧ Gx w2 w', ⟨_, w2.put Dd (.lst []) gD, rfl, rfl, Nat.zero_le _, st, fun _ _ e => e⟩, ?_⟩
    rintro i m H' ⟨w', rfl, rfl, hi, ow, g'⟩
    by_cases hlt : i < xs.length
    · have hx : xs[i]? = some xs[i] := List.getElem?_eq_getElem hlt
      have hmem : xs[i] ∈ xs := List.getElem_mem hlt
      have etk : xs.take (i + 1) = xs.take i ++ [xs[i]] := by rw [List.take_add_one, hx]; rfl
      have efl : (xs.take (i + 1)).flatMap ys = (xs.take i).flatMap ys ++ ys xs[i] := by
        rw [etk, List.flatMap_append]
        simp
      have ele : ((xs.take i).flatMap ys).length + (ys xs[i]).length ≤ 1000000 := by
        have e2 : xs.flatMap ys = (xs.take (i + 1)).flatMap ys ++ (xs.drop (i + 1)).flatMap ys := by rw [← List.flatMap_append, List.take_append_drop]
        rw [e2, List.length_append, efl, List.length_append] at hz
        omega
      refine .inr ⟨T.go i w' hlt g', fun H2 => ∃ w3 : Wd, H2 = w3.H ∧ Own w1 Dd Z (((xs.take (i + 1)).flatMap ys).map val) w3 ∧ Gx w2 w3, ?_, fun v H2 y => ?_⟩
      · rintro H2 ⟨w3, rfl, ow3, g3⟩
        exact ⟨xs.length - (i + 1), by omega, w3, rfl, rfl, hlt, ow3, g3⟩
      · obtain ⟨w3, rfl, l3, pv⟩ := T.yld i w' v H2 xs[i] hx g' y
        have ow3 := ow.up l3
        have o3 : EnvOk w3.G (wipe σ own) (drops Γ own) := (o.up ow3.le).wiped own
        refine hg xs[i] v (wipe σ own) w3 _ pv o3 _ fun σ2 o2 k2 len2 => ⟨wipe_bind k2 len2 hjs, ?_⟩
        refine yesT (iteT ?_)
        refine (h1 xs[i] hmem σ2 w3 (l.trans ow3.le) o2 _ fun J1 w4 l4 T1 => ?_)
        have ow4 := ow3.up l4
        refine ⟨fun j k H' => ∃ w5 : Wd, H' = w5.H ∧ k = (ys xs[i]).length - j ∧ j ≤ (ys xs[i]).length ∧ Own w1 Dd Z (((xs.take i).flatMap ys ++ (ys xs[i]).take j).map val) w5 ∧ Gx w4 w5, ⟨_, w4, rfl, rfl, Nat.zero_le _, by rw [List.take_zero, List.append_nil]; exact ow4, fun _ _ e => e⟩, ?_⟩
        rintro j k H' ⟨w5, rfl, rfl, hj, ow5, g5⟩
        by_cases hjl : j < (ys xs[i]).length
        · have hy : (ys xs[i])[j]? = some (ys xs[i])[j] := List.getElem?_eq_getElem hjl
          refine .inr ⟨T1.go j w5 hjl g5, fun H2 => ∃ w6 : Wd, H2 = w6.H ∧ Own w1 Dd Z (((xs.take i).flatMap ys ++ (ys xs[i]).take (j + 1)).map val) w6 ∧ Gx w4 w6, ?_, fun v2 H2 y2 => ?_⟩
          · rintro H2 ⟨w6, rfl, ow6, g6⟩
            exact ⟨(ys xs[i]).length - (j + 1), by omega, w6, rfl, rfl, hjl, ow6, g6⟩
          · obtain ⟨w6, rfl, l6, pv6⟩ := T1.yld j w5 v2 H2 _ hy g5 y2
            have ow6 := ow5.up l6
            have o6 : EnvOk w6.G (wipe σ2 own1) (drops (f xs[i] (drops Γ own)) own1) := (o2.mono fun a u z => l6.g a u (g5 a u (l4.g a u z))).wiped own1
            refine hg1 _ v2 (wipe σ2 own1) w6 _ pv6 o6 _ fun σ3 o7 k3 len3 => ⟨wipe_bind k3 len3 hjs1, ?_⟩
            refine yesT (iteT ?_)
            refine (he xs[i] hmem _ (List.getElem_mem hjl) σ3 w6 (l.trans ow6.le) o7 _ fun z w7 l7 pz => ?_)
            have ow7 := ow6.up l7
            obtain ⟨vs, a, r⟩ := ow7.at_
            refine ⟨vs, a, Nat.lt_of_le_of_lt (?_ : vs.length ≤ 1000000) (by decide), w7.put Dd (.lst (vs ++ [z])) ow7.g, rfl, ⟨ow7.le.put ow7.fr, ow7.fr, ow7.g, vs ++ [z], upd_same, ?_⟩, fun b u q => l7.g b u (l6.g b u (g5 b u q))⟩
            · rw [r.len, List.length_map, List.length_append, List.length_take]
              omega
            · have em : ((xs.take i).flatMap ys ++ (ys xs[i]).take (j + 1)).map val = ((xs.take i).flatMap ys ++ (ys xs[i]).take j).map val ++ [val (ys xs[i])[j]] := by
                rw [List.take_add_one, hy, ← List.append_assoc, List.map_append]
                rfl
              have r2 := r.snoc pz
              rw [← em] at r2
              exact r2
        · have e : j = (ys xs[i]).length := by omega
          subst e
          rw [List.take_length, ← efl] at ow5
          exact .inl ⟨T1.stop w5 g5, w5, rfl, ow5, fun b u z => g5 b u (l4.g b u (l3.g b u (g' b u z)))⟩
    · have e : i = xs.length := by omega
      subst e
      rw [List.take_length] at ow
      obtain ⟨vs, a, r⟩ := ow.at_
      exact .inl ⟨T.stop w' g', q Dd vs w' ow.le ow.fr ow.g a r⟩
section
variable {P : Program} {w : World} {K : PySem.W.Frag} {mg : Str → Option Value} {base : Heap}
theorem fold_take {a : List Nat} {piece : List (List Nat)} {i : Nat} {s : List Nat} (h : piece[i]? = some s) : withoutF a (piece.take (i + 1)) = (withoutF a (piece.take i)).flatMap fun o => splitF o s := by
  unfold withoutF
  rw [List.take_add_one, h, List.foldl_append]
  rfl
theorem without_len {a : List Nat} : ∀ (piece : List (List Nat)) (parts : List (List Nat)), (∀ s ∈ piece, s.length = a.length) → (∀ s ∈ parts, s.length = a.length) → ∀ s ∈ piece.foldl (fun parts s => parts.flatMap fun o => splitF o s) parts, s.length = a.length
  | [], parts, _, hp, s, hs => hp s hs
  | q :: r, parts, h, hp, s, hs => by
    refine without_len r _ (fun z hz => h z (List.mem_cons_of_mem _ hz)) (fun z hz => ?_) s hs
    obtain ⟨p, hp1, hz⟩ := List.mem_flatMap.mp hz
    rw [split_len (by rw [hp p hp1, h q List.mem_cons_self]) z hz, hp p hp1]
theorem flat_len {n : Nat} {f : List Nat → List (List Nat)} : ∀ (l : List (List Nat)), (∀ x ∈ l, (f x).length ≤ n) → (l.flatMap f).length ≤ l.length * n
  | [], _ => Nat.zero_le _
  | x :: r, h => by
    rw [List.flatMap_cons, List.length_append, List.length_cons, Nat.add_mul, Nat.one_mul]
    have h1 := h x List.mem_cons_self
    have h2 := flat_len r fun y hy => h y (List.mem_cons_of_mem _ hy)
    omega
theorem without_few {a : List Nat} (ha : a.length ≤ 4) : ∀ (piece : List (List Nat)) (parts : List (List Nat)), (∀ s ∈ piece, s.length = a.length) → (∀ s ∈ parts, s.length = a.length) →
    (piece.foldl (fun parts s => parts.flatMap fun o => splitF o s) parts).length ≤ parts.length * 5 ^ piece.length
  | [], parts, _, _ => by simp
  | q :: r, parts, h, hp => by
    have hq : ∀ z ∈ parts.flatMap (fun o => splitF o q), z.length = a.length := fun z hz => by
      obtain ⟨p, hp1, hz⟩ := List.mem_flatMap.mp hz
      rw [split_len (by rw [hp p hp1, h q List.mem_cons_self]) z hz, hp p hp1]
    have h1 := without_few ha r (parts.flatMap fun o => splitF o q) (fun z hz => h z (List.mem_cons_of_mem _ hz)) hq
    have h2 : (parts.flatMap fun o => splitF o q).length ≤ parts.length * 5 := flat_len parts fun x hx => by
      have := @split_few x q
      rw [hp x hx] at this
      omega
    rw [List.foldl_cons, List.length_cons, Nat.pow_succ]
    refine Nat.le_trans h1 ?_
    calc _ ≤ parts.length * 5 * 5 ^ r.length := Nat.mul_le_mul_right _ h2
      _ = _ := by rw [Nat.mul_assoc, Nat.mul_comm 5]
theorem ok_without (T : Txt K mg) : Ok_without P w K mg base spWithout := by
  refine okP T.f_without sc_without (fun _ => rfl) fun cdv A outer s H E hr => ⟨_, (pss_cons (ps_set (i := 2) sc_without.nd rfl (Or.inl rfl) (pe_lst (pa_cons (pv 0) pa_nil))) (pss_cons (ps_for PassesOwn.never rfl (pi_list (pv 1)) (pg_name (i := 3) sc_without.nd rfl (Or.inr rfl)) (pss_one (ps_setLc2 (i := 2) (own := [("other", 4), ("part", 5)]) (vs1 := [5]) (g := (gName 4)) (tt := tYes) (g1 := (gName 5)) (tt1 := tYes) (wi1 := (iList K (tCall _ [] E0 (tCons (tVar 4) (tCons (tVar 3) tNil))))) (te := (tVar 5)) rfl sc_without.nd rfl rfl (sw_true rfl rfl rfl (by decide +kernel)) (pi_list (pv 2)) (blkOk_by (own := [("other", 4), ("part", 5)]) (N := N_without) (sc := defScope st_without) (by decide +kernel)) (by decide) (fun _ _ _ _ _ => (pg_name (i := 4) sc_without.nd rfl (Or.inl rfl))) (fun _ _ _ _ _ => pts_nil) (fun _ _ _ _ _ => (pi_list (pe_call (ok__split T) (hr.mono (by decide)) rfl T.g__split T.f__split.kp T.b__split .nil pass0 (pa_cons (pv 4) (pa_cons (pv 3) pa_nil))))) (fun _ _ _ _ _ => (pg_name (i := 5) sc_without.nd rfl (Or.inl rfl))) (fun _ _ _ _ _ => pts_nil) (fun _ _ _ _ _ => (pv 5))))) (pss_one (ps_ret (pv 2))))), ?_⟩
  rintro ⟨a, piece⟩ w0 σ Q ⟨hl, hn, hp⟩ o k
  have hl : a.length ≤ 4 := hl
  have hn : piece.length ≤ 2 := hn
  have hp : ∀ s ∈ piece, s.length = a.length := hp
  have o : EnvOk w0.G σ [some (sNs a), some (sPiece piece), none, none, none, none] := o
  have k : ∀ v w2, Le w0 w2 → (sPiece (withoutF a piece)).P w2.G v → Q v w2.H := k
  refine seq (s_set o (el_one (R := sNs) (x := a) (e_var rfl)).e fun σ1 w1 l1 o1 => ?_)
  refine seq (s_for o1 (i_list (R := sNs) (xs := piece) (e_var rfl)) (fun p => b_name) (fun i => [some (sNs a), some (sPiece piece), some (sPiece (withoutF a (piece.take i))), none, none, none]) (fun _ w2 => Le w0 w2)
    (fun _ _ _ h l => h.trans l) (fun w2 l2 o2 => ⟨o2, l1.trans l2⟩) (fun i sk σ2 w2 hs o2 h2 N hN => ?_) (fun σ2 w2 o2 h2 => ?_))
  · have hpi : ∀ z ∈ piece.take i, z.length = a.length := fun z hz => hp z (List.mem_of_mem_take hz)
    have ha1 : ∀ z ∈ [a], z.length = a.length := fun z hz => by rw [List.mem_singleton.mp hz]
    have hw : ∀ z ∈ withoutF a (piece.take i), z.length = a.length := without_len (piece.take i) [a] hpi ha1
    have hsk : sk.length = a.length := hp sk (List.mem_of_getElem? hs)
    refine s_set o2 (el_lc2 (R := sNs) (S := sNs) (Z := sNs) (fun o => splitF o sk) id (i_list (xs := withoutF a (piece.take i)) (e_var rfl)) (fun _ => b_name) (by decide)
      (fun x hx => i_list (e_call (x, sk) ⟨by rw [hw x hx]; omega, by rw [hw x hx, hsk]⟩ (ea_cons (e_var rfl) (ea_cons (e_var rfl) ea_nil)))) (fun _ => b_name) (by decide) (fun x hx y hy => e_var rfl) ?_).e fun σ3 w3 l3 o3 => ?_
    · have q := without_few (a := a) hl (piece.take (i + 1)) [a] (fun z hz => hp z (List.mem_of_mem_take hz)) ha1
      have q2 : (withoutF a (piece.take (i + 1))).length ≤ 1 * 5 ^ (piece.take (i + 1)).length := q
      rw [fold_take hs] at q2
      have q3 : (piece.take (i + 1)).length ≤ 2 := by rw [List.length_take]; omega
      have q4 : 5 ^ (piece.take (i + 1)).length ≤ 5 ^ 2 := Nat.pow_le_pow_right (by decide) q3
      omega
    · refine hN σ3 w3 _ o3 (fun o => ?_) (h2.trans l3) l3.g
      rw [fold_take hs]
      rw [List.map_id] at o
      exact o.drop 3
  · refine s_ret o2 (e_var (s := sPiece (withoutF a (piece.take piece.length))) rfl) fun v w3 l3 pv => k v w3 (h2.trans l3) ?_
    rw [List.take_length] at pv
    exact pv
end
end R40

set_option Elab.async false
set_option linter.all false
set_option maxRecDepth 100000
set_option maxHeartbeats 4000000
/-! Walks: the least disk, the sketch before a deed. -/
namespace R40
open PySem PySem.Spec PyProof.Rows L2 M40
section
variable {Γ : Env} {w : Wd} {s t u : Slot} {te ta tb tc : TE} {tt tu : TT} {K : PySem.W.Frag} {α : Type} {R : α → Slot} {xs : List α}
theorem t_truN {n : Nat} (h : E ta Γ w (sNat n)) : ET (fun σ H Q => ta σ H fun x H2 => ∃ k, TruV K x H2 k ∧ Q k H2) Γ w (n != 0) := fun σ w1 l o Q q =>
  h σ w1 l o _ fun v w2 l2 p => by
    cases p
    refine ⟨(n : Int) != 0, rfl, ?_⟩
    have e : ((n : Int) != 0) = (n != 0) := by
      rw [Bool.eq_iff_iff]
      simp
    rw [e]
    exact q w2 l2
theorem e_bits {n : Nat} (h : E ta Γ w (sNat n)) : E (tBits ta) Γ w (sNat (Builtin.Int.intBits (n : Int))) := fun σ w1 l o Q q =>
  h σ w1 l o _ fun v w2 l2 p => ⟨_, p, q _ w2 l2 rfl⟩
theorem e_all {bs : List Bool} (h : E ta Γ w (sLst (fun b : Bool => sBl b) bs)) : E (tCB (rAll K) (tCons ta tNil)) Γ w (sBl (bs.all id)) := fun σ w1 l o Q q =>
  h σ w1 l o _ fun v w2 l2 p => by
    obtain ⟨a, vs, rfl, ha, r⟩ := p
    have ev : vs = bs.map V.bl := r.sV_eq
    rw [ev] at ha
    exact ⟨a, bs, rfl, SqL.of (w2.sub _ _ ha), q _ w2 l2 rfl⟩
theorem e_prop {ι : Type} {C : Addr} {fs : List (Str × Slot)} {pre : ι → Prop} {as : ι → List Slot} {Φ : ι → Slot} {X : XK} (x : ι) (hp : pre x) (has : as x = [sObj C fs]) (h : E ta Γ w (sObj C fs)) : E (tProp C (spP pre as Φ) [] X ta) Γ w (Φ x) := fun σ w1 l o Q q =>
  h σ w1 l o _ fun v w2 l2 p => by
    obtain ⟨a, dx, vs, rfl, ha, r⟩ := id p
    exact ⟨a, dx, vs, rfl, w2.sub _ _ ha, x, w2, rfl, hp, by rw [has]; exact .cons p .nil, fun v w3 l3 p3 => q v w3 (l2.trans l3) p3⟩
/-- a list of one's own, stable from here on -/
theorem Own.stable {w0 : Wd} {l : Addr} {σ : L2.St} {i : Nat} (ow : Own w0 l R xs w) (o : EnvOk w.G σ Γ) (hi : Γ[i]? = some (some (sRef l))) : ∃ w2 : Wd, w2.H = w.H ∧ Le w0 w2 ∧ Gx w w2 ∧ EnvOk w2.G σ (Γ.set i (some (sLst R xs))) := by
  obtain ⟨vs, a, r⟩ := ow.at_
  have gx : ∀ b u, w.G b = some u → upd w.G l (.lst vs) b = some u := fun b u e => keepU (neN e ow.g) e
  exact ⟨w.frz l (.lst vs) a, rfl, ow.le.frz ow.g ow.fr, gx, (o.mono gx).imp hi fun v e => ⟨l, vs, e, upd_same, r.mono gx⟩⟩
/-- l[i] &= e -/
theorem s_augAnd {w0 : Wd} {l : Addr} {ns : List Nat} {i x y : Nat} {D : Ends} {σ : L2.St} (o : EnvOk w.G σ Γ) (ow : Own w0 l (fun n : Nat => sNat n) ns w) (hx : ns[i]? = some x) (ha : E ta Γ w (sRef l)) (hb : E tb Γ w (sNat i)) (h : E te Γ w (sNat y))
    (k : ∀ w2 : Wd, LeB [l] w w2 → Own w0 l (fun n : Nat => sNat n) (ns.set i (x &&& y)) w2 → EnvOk w2.G σ Γ → D.nx σ w2.H) : tAugS ta tb te (rGetL K) (rI0 fun i j => .int (Builtin.bitAnd i j)) rSetL D σ w.H :=
  ha σ w .refl o _ fun v w1 l1 p => hb σ w1 l1 (o.up l1) _ fun u w2 l2 p2 => by
    cases p
    cases p2
    have ow2 := ow.up (l1.trans l2)
    obtain ⟨vs, a, r⟩ := ow2.at_
    obtain ⟨z, hz, pz⟩ := r.get hx
    refine ⟨l, vs, i, z, rfl, rfl, SqL.of a, hz, h σ w2 (l1.trans l2) (o.up (l1.trans l2)) _ fun c w3 l3 p3 => ?_⟩
    have hz0 : z = .int (x : Int) := pz
    subst hz0
    cases p3
    have ow3 := ow2.up l3
    obtain ⟨vs3, a3, r3⟩ := ow3.at_
    have hi3 : i < vs3.length := by rw [r3.len]; exact (List.getElem?_eq_some_iff.mp hx).1
    refine ⟨_, _, rfl, rfl, l, vs3, _, i, rfl, rfl, a3, ?_, ?_⟩
    · unfold ixN
      rw [if_pos (by omega), if_pos (by omega)]
      rfl
    · show D.nx σ (upd w3.H l (.lst (vs3.set i (.int (Builtin.bitAnd (x : Int) (y : Int))))))
      rw [band_n]
      have lb : LeB [l] w3 (w3.put l (.lst (vs3.set i (.int ((x &&& y : Nat) : Int)))) ow3.g) := Wd.leB_put (List.mem_singleton.mpr rfl)
      exact k (w3.put l (.lst (vs3.set i (.int ((x &&& y : Nat) : Int)))) ow3.g) ((LeB.up (l1.trans (l2.trans l3))).trans lb) ⟨ow3.le.put ow.fr, ow.fr, ow3.g, _, upd_same, r3.set i rfl⟩ ((o.up (l1.trans (l2.trans l3))).up lb)
end
section
variable {P : Program} {w : World} {K : PySem.W.Frag} {mg : Str → Option Value} {base : Heap}
abbrev valuesB (m : Nat) : List Nat := (List.range (Builtin.Int.intBits (m : Int))).filter fun v => m.testBit v
abbrev spValues : Sp := spP (fun m : Nat => m < 2 ^ 1000) (fun m => [sNat m]) (fun m => sLst (fun n : Nat => sNat n) (valuesB m))
theorem bits_le {m : Nat} (h : m < 2 ^ 1000) : Builtin.Int.intBits (m : Int) ≤ 1000 := by
  unfold Builtin.Int.intBits
  split
  · omega
  · rename_i hz
    have h0 : m ≠ 0 := fun e => hz (by rw [e]; rfl)
    rw [Int.natAbs_natCast]
    exact (Nat.log2_lt h0).mpr h
theorem bits_lt {m v : Nat} (h : m.testBit v = true) : v < Builtin.Int.intBits (m : Int) := by
  have h0 : m ≠ 0 := fun e => by rw [e, Nat.zero_testBit] at h; cases h
  unfold Builtin.Int.intBits
  rw [if_neg (by simpa using h0), Int.natAbs_natCast]
  have h1 : 2 ^ v ≤ m := Nat.ge_two_pow_of_testBit h
  have h2 := (Nat.le_log2 h0).mpr h1
  omega
theorem ok_values_of (T : Txt K mg) : Ok_values_of P w K mg base spValues := by
  refine okP T.f_values_of sc_values_of (fun _ => rfl) fun cdv A outer s H E hr => ⟨_, (pss_one (ps_ret (pe_lc (own := [("value", 1)]) (g := (gName 1)) (tt := (fun σ H Q => (tOp rAnd (tOp rShr (tVar 0) (tVar 1)) (tC (.int 1))) σ H fun x H2 => ∃ k, TruV K x H2 k ∧ Q k H2)) (te := (tVar 1)) rfl sc_values_of.nd (pi_range1 rfl T.n_range (pa_cons (pe_bits (pv 0)) pa_nil)) (blkOk_by (own := [("value", 1)]) (N := N_values_of) (sc := defScope st_values_of) (by decide +kernel)) (fun _ _ _ _ _ => (pg_name (i := 1) sc_values_of.nd rfl (Or.inl rfl))) (fun _ _ _ _ _ => (pts_one (pt_truth (pe_op op_and (pe_op op_shr (pv 0) (pv 1)) pe_int) (by intro _; rfl)))) (fun _ _ _ _ _ => (pv 1))))), ?_⟩
  rintro m w0 σ Q hm o k
  have o : EnvOk w0.G σ [some (sNat m), none] := o
  refine s_ret o (e_is (el_lc (Z := fun n : Nat => sNat n) (fun v => m.testBit v) id (i_range1 (Nat.le_trans (bits_le hm) (by decide)) (e_bits (e_var rfl))) (by rw [List.length_range]; exact Nat.le_trans (bits_le hm) (by decide)) (fun _ => b_name) (by decide)
    (fun v _ => t_is (t_truN (e_bit (a := m) (b := v) (e_var rfl) (e_var rfl))) (by cases m.testBit v <;> rfl)) (fun v _ _ => e_var (s := sNat v) rfl)).e (by rw [List.map_id])) k
/-- a disk that takes, cell by cell, a value of the set -/
def LeastOk (s d : List Nat) : Prop := d.length = s.length ∧ ∀ i, i < s.length → (at0 s i).testBit (at0 d i) = true
abbrev spLeast : Sp := spP (fun s : List Nat => s.length ≤ 1000 ∧ ∀ m ∈ s, 0 < m ∧ m < 2 ^ 1000) (fun s => [sNs s]) (fun s => sEx (LeastOk s) sNs)
theorem values_some {m : Nat} (h : 0 < m) : ∃ v, (valuesB m)[0]? = some v ∧ m.testBit v = true := by
  obtain ⟨v, hv⟩ := Nat.exists_testBit_of_ne_zero (Nat.ne_of_gt h)
  have mem : v ∈ valuesB m := List.mem_filter.mpr ⟨List.mem_range.mpr (bits_lt hv), hv⟩
  cases e : valuesB m with
  | nil =>
    rw [e] at mem
    cases mem
  | cons x r =>
    have hx : x ∈ valuesB m := by rw [e]; exact List.mem_cons_self
    exact ⟨x, rfl, (List.mem_filter.mp hx).2⟩
theorem ok_least_disk (T : Txt K mg) : Ok_least_disk P w K mg base spLeast := by
  refine okP T.f_least_disk sc_least_disk (fun _ => rfl) fun cdv A outer s H E hr => ⟨_, (pss_one (ps_ret (pe_callTy call_tuple_of (by rfl) T.n_tuple (by decide +kernel) (pa_cons (pe_lc (own := [("mask", 1)]) (g := (gName 1)) (tt := tYes) (te := (tOp (rIxL K) (tCall _ [] E0 (tCons (tVar 1) tNil)) (tC (.int 0)))) rfl sc_least_disk.nd (pi_tup (pv 0)) (blkOk_by (own := [("mask", 1)]) (N := N_least_disk) (sc := defScope st_least_disk) (by decide +kernel)) (fun _ _ _ _ _ => (pg_name (i := 1) sc_least_disk.nd rfl (Or.inl rfl))) (fun _ _ _ _ _ => pts_nil) (fun _ _ _ _ _ => (pe_ix ix_list (pe_call (ok_values_of T) (hr.mono (by decide)) rfl T.g_values_of T.f_values_of.kp T.b_values_of .nil pass0 (pa_cons (pv 1) pa_nil)) pe_int (fun _ _ => rfl)))) pa_nil)))), ?_⟩
  rintro sk w0 σ Q ⟨hl, hm⟩ o k
  have o : EnvOk w0.G σ [some (sNs sk), none] := o
  let pick : Nat → Nat := fun m => if h : 0 < m then (values_some h).choose else 0
  have hp : ∀ m, 0 < m → (valuesB m)[0]? = some (pick m) ∧ m.testBit (pick m) = true := fun m h => by
    show (valuesB m)[0]? = some (if h : 0 < m then (values_some h).choose else 0) ∧ m.testBit (if h : 0 < m then (values_some h).choose else 0) = true
    rw [dif_pos h]
    exact (values_some h).choose_spec
  refine s_ret o (e_tupN (el_lcM (Z := fun n : Nat => sNat n) pick (i_tup (R := fun n : Nat => sNat n) (xs := sk) (e_var rfl)) (by omega) (fun _ => b_name) (by decide) (fun m hx => ?_))) fun v w1 l1 pv => k v w1 l1 ⟨sk.map pick, ⟨List.length_map _, fun i hi => ?_⟩, pv⟩
  · exact e_ixL (R := fun n : Nat => sNat n) (i := 0) (hp m (hm m hx).1).1 (e_call m (hm m hx).2 (ea_cons (e_var rfl) ea_nil)) (e_n 0 0)
  · have e1 : sk[i]? = some sk[i] := List.getElem?_eq_getElem hi
    have e2 : (sk.map pick)[i]? = some (pick sk[i]) := by rw [List.getElem?_map, e1]; rfl
    rw [at0_of e1, at0_of e2]
    exact (hp _ (hm _ (List.getElem_mem hi)).1).2
end
end R40

set_option Elab.async false
set_option linter.all false
set_option maxRecDepth 100000
set_option maxHeartbeats 4000000
/-! Walk: the sketch before a deed. -/
namespace R40
open PySem PySem.Spec PyProof.Rows L2 M40
section
variable {P : Program} {w : World} {K : PySem.W.Frag} {mg : Str → Option Value} {base : Heap}
abbrev spBefore (K : PySem.W.Frag) : Sp := spP (fun x : Mach × List Nat × Nat × Deed => OkM x.1 ∧ x.2.1.length = x.1.sizes.length ∧ x.1.deeds[x.2.2.1]? = some x.2.2.2) (fun x => [sMach K x.1, sNs x.2.1, sNat x.2.2.1]) (fun x => sOpt sNs (beforeF x.1.sizes x.2.1 x.2.2.2))
theorem freed_take {z s : List Nat} {l : List (Nat × Src)} {i : Nat} {p : Nat × Src} (h : l[i]? = some p) :
    (l.take (i + 1)).foldl (fun m p => m.set p.1 (2 ^ at0 z p.1 - 1)) s = ((l.take i).foldl (fun m p => m.set p.1 (2 ^ at0 z p.1 - 1)) s).set p.1 (2 ^ at0 z p.1 - 1) := by
  rw [List.take_add_one, h, List.foldl_append]
  rfl
theorem back_take {s : List Nat} {l : List (Nat × Src)} {i : Nat} {p : Nat × Src} {m : Option (List Nat)} (h : l[i]? = some p) : (l.take (i + 1)).foldl (backStep s) m = backStep s ((l.take i).foldl (backStep s) m) p := by
  rw [List.take_add_one, h, List.foldl_append]
  rfl
theorem back_none {s : List Nat} : ∀ l : List (Nat × Src), l.foldl (backStep s) none = none
  | [] => rfl
  | _ :: r => back_none r
theorem guard_take {l : List (Nat × Nat)} {m : List Nat} {i : Nat} {p : Nat × Nat} (h : l[i]? = some p) :
    (l.take (i + 1)).foldl (fun m p => m.set p.1 (at0 m p.1 &&& p.2)) m = (fun m => m.set p.1 (at0 m p.1 &&& p.2)) ((l.take i).foldl (fun m p => m.set p.1 (at0 m p.1 &&& p.2)) m) := by
  rw [List.take_add_one, h, List.foldl_append]
  rfl
theorem at0_some {l : List Nat} {i : Nat} (h : i < l.length) : l[i]? = some (at0 l i) := by
  have q : l[i]? = some l[i] := List.getElem?_eq_getElem h
  rw [at0_of q]
  exact q
theorem ok_sketch_before (T : Txt K mg) : Ok_sketch_before P w K mg base (spBefore K) := by
  refine okP T.f_sketch_before sc_sketch_before (fun _ => rfl) fun cdv A outer s H E hr => ⟨_, (pss_cons (ps_asg (pe_ix ix_tup (pe_fld (pv 0) rfl) (pv 2) (fun _ _ => rfl)) (pg_tup rfl (pgs_cons (pg_name (i := 3) sc_sketch_before.nd rfl (Or.inl rfl)) (pgs_cons (pg_name (i := 4) sc_sketch_before.nd rfl (Or.inl rfl)) (pgs_cons (pg_name (i := 5) sc_sketch_before.nd rfl (Or.inl rfl)) pgs_nil))))) (pss_cons (ps_set (i := 6) sc_sketch_before.nd rfl (Or.inl rfl) (pe_callTy call_list_of (by rfl) T.n_list (by decide +kernel) (pa_cons (pv 1) pa_nil))) (pss_cons (ps_set (i := 7) sc_sketch_before.nd rfl (Or.inl rfl) (pe_prop (pv 0) T.c_Machine T.p_Machine_full (ok_Machine_full T) (hr.mono (by decide)) T.b_Machine_full .nil pass0 rfl)) (pss_cons (ps_for PassesOwn.never rfl (pi_tup (pv 5)) (pg_tup rfl (pgs_cons (pg_name (i := 8) sc_sketch_before.nd rfl (Or.inl rfl)) (pgs_cons (pg_name (i := 3) sc_sketch_before.nd rfl (Or.inl rfl)) pgs_nil))) (pss_one (ps_asg (pe_ix ix_tup (pv 7) (pv 8) (fun _ _ => rfl)) (pg_sub (pv 6) (pv 8) set_list)))) (pss_cons (ps_for PassesOwn.never rfl (pi_tup (pv 5)) (pg_tup rfl (pgs_cons (pg_name (i := 8) sc_sketch_before.nd rfl (Or.inl rfl)) (pgs_cons (pg_tup rfl (pgs_cons (pg_name (i := 9) sc_sketch_before.nd rfl (Or.inl rfl)) (pgs_cons (pg_name (i := 10) sc_sketch_before.nd rfl (Or.inl rfl)) pgs_nil))) pgs_nil))) (pss_one (ps_if (pt_cmpR op_eq (pv 9) pe_str (nomark _)) (pss_one (ps_if (pt_cmpR op_eq (pe_op op_and (pe_op op_shr (pe_ix ix_tup (pv 1) (pv 8) (fun _ _ => rfl)) (pv 10)) pe_int) pe_int (nomark _)) (pss_one (ps_ret pe_non)) pss_nil)) (pss_one (ps_augS (pv 6) (pv 10) get_list (pe_ix ix_tup (pv 1) (pv 8) (fun _ _ => rfl)) ip_band set_list))))) (pss_cons (ps_for PassesOwn.never rfl (pi_tup (pv 4)) (pg_tup rfl (pgs_cons (pg_name (i := 8) sc_sketch_before.nd rfl (Or.inl rfl)) (pgs_cons (pg_name (i := 11) sc_sketch_before.nd rfl (Or.inl rfl)) pgs_nil))) (pss_one (ps_augS (pv 6) (pv 8) get_list (pv 11) ip_band set_list))) (pss_one (ps_ret (pe_ifExp (pt_val (pe_callB (cr_all rfl) (by rfl) T.n_all (by decide +kernel) (pa_cons (pe_lc (own := [("mask", 11)]) (g := (gName 11)) (tt := tYes) (te := (tOp rNe (tVar 11) (tC (.int 0)))) rfl sc_sketch_before.nd (pi_list (pv 6)) (blkOk_by (own := [("mask", 11)]) (N := N_sketch_before) (sc := defScope st_sketch_before) (by decide +kernel)) (fun _ _ _ _ _ => (pg_name (i := 11) sc_sketch_before.nd rfl (Or.inl rfl))) (fun _ _ _ _ _ => pts_nil) (fun _ _ _ _ _ => (pe_cmpR op_ne (pv 11) pe_int (nomark _)))) pa_nil))) (pe_callTy call_tuple_of (by rfl) T.n_tuple (by decide +kernel) (pa_cons (pv 6) pa_nil)) pe_non))))))))), ?_⟩
  rintro ⟨m, sk, d, e⟩ w0 σ Q ⟨hm, hs, he⟩ o k
  have hm : OkM m := hm
  have hs : sk.length = m.sizes.length := hs
  have he : m.deeds[d]? = some e := he
  have k : ∀ v w2, Le w0 w2 → (sOpt sNs (beforeF m.sizes sk e)).P w2.G v → Q v w2.H := k
  have hd : OkDeed m.sizes e := hm.deed e (List.mem_of_getElem? he)
  have o : EnvOk w0.G σ [some (sMach K m), some (sNs sk), some (sNat d), none, none, none, none, none, none, none, none, none] := o
  refine seq (s_asg o (b_t3 b_any b_name b_name) (e_ixT (R := sDeed) he (e_fld T.c_Machine T.a_Machine_deeds rfl (e_var rfl)) (e_var rfl)) fun σ1 w1 l1 o1 => ?_)
  have o1 : EnvOk w1.G σ1 [some (sMach K m), some (sNs sk), some (sNat d), some sAny, some (sTup sPr e.guard), some (sTup sChg e.chg), none, none, none, none, none, none] := o1
  refine seq (s_setL (R := fun n : Nat => sNat n) (xs := sk) o1 (el_listT (e_var rfl)) fun l vs σ2 w2 l2 n2 g2 h2 r2 o2 => ?_)
  have ow := Own.mk0 (w0 := w0) l1 l2 n2 g2 h2 r2
  refine seq (s_set o2 (e_prop m hm rfl (e_var rfl)) fun σ3 w3 l3 o3 => ?_)
  have o3 : EnvOk w3.G σ3 [some (sMach K m), some (sNs sk), some (sNat d), some sAny, some (sTup sPr e.guard), some (sTup sChg e.chg), some (sRef l), some (sNs (m.sizes.map fun z => 2 ^ z - 1)), none, none, none, none] := o3
  have fullAt : ∀ c, c < m.sizes.length → (m.sizes.map fun z => 2 ^ z - 1)[c]? = some (2 ^ at0 m.sizes c - 1) := fun c hc => by
    rw [List.getElem?_map, at0_some hc]
    rfl
  -- every changed cell gets all its values
  refine seq (s_for o3 (i_tup (R := sChg) (xs := e.chg) (e_var rfl)) (fun p => b_t2 b_name (B.imp b_any fun _ _ _ => trivial))
    (fun _ => [some (sMach K m), some (sNs sk), some (sNat d), none, some (sTup sPr e.guard), some (sTup sChg e.chg), some (sRef l), some (sNs (m.sizes.map fun z => 2 ^ z - 1)), none, none, none, none])
    (fun i w4 => Own w0 l (fun n : Nat => sNat n) ((e.chg.take i).foldl (fun (m2 : List Nat) (p : Nat × Src) => m2.set p.1 (2 ^ at0 m.sizes p.1 - 1)) sk) w4 ∧ ((e.chg.take i).foldl (fun (m2 : List Nat) (p : Nat × Src) => m2.set p.1 (2 ^ at0 m.sizes p.1 - 1)) sk).length = m.sizes.length)
    (fun _ _ _ h l => ⟨h.1.up l, h.2⟩) (fun w4 l4 o4 => ⟨o4.drop 3, ow.up (l3.trans l4), hs⟩) (fun i p σ4 w4 hp o4 h4 N hN => ?_) (fun σ4 w4 o4 h4 => ?_))
  · obtain ⟨ow4, len4⟩ := h4
    have hc := (hd.cIn p (List.mem_of_getElem? hp)).1
    refine s_put o4 ow4 (by rw [len4]; exact hc) (e_ixT (R := fun n : Nat => sNat n) (i := p.1) (fullAt p.1 hc) (e_var rfl) (e_var rfl)) (e_var rfl) (e_var rfl) fun w5 l5 ow5 o5 => ?_
    refine hN σ4 w5 _ o5 (fun o => (o.drop 3).drop 8) ⟨?_, ?_⟩ l5.g
    · rw [freed_take hp]
      exact ow5
    · rw [freed_take hp, List.length_set]
      exact len4
  rw [List.take_length] at h4
  obtain ⟨ow4, len4⟩ := h4
  -- the sources, seen backwards
  refine seq (s_for o4 (i_tup (R := sChg) (xs := e.chg) (e_var rfl)) (fun p => b_t2 b_name (B.imp (b_t2 (s := sStr (srcKind p.2)) (t := sNat (srcNum p.2)) b_name b_name) fun _ _ h => src_kind h))
    (fun _ => [some (sMach K m), some (sNs sk), some (sNat d), none, some (sTup sPr e.guard), some (sTup sChg e.chg), some (sRef l), some (sNs (m.sizes.map fun z => 2 ^ z - 1)), none, none, none, none])
    (fun i w5 => ∃ mm : List Nat, (e.chg.take i).foldl (backStep sk) (some (freed m.sizes sk e)) = some mm ∧ mm.length = m.sizes.length ∧ Own w0 l (fun n : Nat => sNat n) mm w5)
    (fun _ _ _ ⟨mm, h1, h2, h3⟩ l => ⟨mm, h1, h2, h3.up l⟩) (fun w5 l5 o5 => ⟨o5, _, rfl, len4, ow4.up l5⟩) (fun i p σ5 w5 hp o5 h5 N hN => ?_) (fun σ5 w5 o5 h5 => ?_))
  · obtain ⟨mm, hmm, lmm, ow5⟩ := h5
    obtain ⟨hc, hsrc⟩ := hd.cIn p (List.mem_of_getElem? hp)
    have skAt : sk[p.1]? = some (at0 sk p.1) := at0_some (by rw [hs]; exact hc)
    obtain ⟨c, r⟩ := p
    cases r with
    | put v =>
      have o5 : EnvOk w5.G σ5 [some (sMach K m), some (sNs sk), some (sNat d), none, some (sTup sPr e.guard), some (sTup sChg e.chg), some (sRef l), some (sNs (m.sizes.map fun z => 2 ^ z - 1)), some (sNat c), some (sStr "set"), some (sNat v), none] := o5
      refine s_if o5 (t_is (b := true) (t_test (e_eq (x := .str "set") (y := .str "set") rfl (e_var rfl) e_c)) (decide_eq_true rfl)) (fun _ w6 l6 o6 => ?_) (fun q => nomatch q)
      refine s_if o6 (t_bit0 (a := at0 sk c) (b := v) (e_ixT (R := fun n : Nat => sNat n) (i := c) skAt (e_var rfl) (e_var rfl)) (e_var rfl)) (fun q w7 l7 o7 => ?_) (fun q w7 l7 o7 => ?_)
      · have qb : (at0 sk c).testBit v = false := by simpa using q
        refine s_ret o7 e_c fun v2 w8 l8 pv => k v2 w8 (ow5.le.trans (l6.trans (l7.trans l8))) ?_
        have hb : backed m.sizes sk e = none := by
          unfold backed
          rw [← List.take_append_drop (i + 1) e.chg, List.foldl_append, back_take hp, hmm]
          show (e.chg.drop (i + 1)).foldl (backStep sk) (if (at0 sk c).testBit v then some mm else none) = none
          rw [qb]
          exact back_none _
        unfold beforeF
        rw [hb]
        exact pv
      · have qb : (at0 sk c).testBit v = true := by simpa using q
        refine hN σ5 w7 _ o7 (fun o => ((o.drop 8).drop 9).drop 10) ⟨mm, ?_, lmm, ow5.up (l6.trans l7)⟩ (l6.trans l7).g
        rw [back_take hp, hmm]
        show (if (at0 sk c).testBit v then some mm else none) = some mm
        rw [qb]
        rfl
    | copy b =>
      have o5 : EnvOk w5.G σ5 [some (sMach K m), some (sNs sk), some (sNat d), none, some (sTup sPr e.guard), some (sTup sChg e.chg), some (sRef l), some (sNs (m.sizes.map fun z => 2 ^ z - 1)), some (sNat c), some (sStr "copy"), some (sNat b), none] := o5
      have hb : b < mm.length := by rw [lmm]; exact hsrc.1
      refine s_if o5 (t_is (b := false) (t_test (e_eq (x := .str "copy") (y := .str "set") rfl (e_var rfl) e_c)) (decide_eq_false (by intro q; injection q with q; exact absurd q (by decide +kernel)))) (fun q => nomatch q) (fun _ w6 l6 o6 => ?_)
      refine s_augAnd o6 (ow5.up l6) (at0_some hb) (e_var rfl) (e_var rfl) (e_ixT (R := fun n : Nat => sNat n) (i := c) skAt (e_var rfl) (e_var rfl)) fun w7 l7 ow7 o7 => ?_
      refine hN σ5 w7 _ o7 (fun o => ((o.drop 8).drop 9).drop 10) ⟨_, ?_, ?_, ow7⟩ (fun a u z => l7.g a u (l6.g a u z))
      · rw [back_take hp, hmm]
        rfl
      · rw [List.length_set]
        exact lmm
  obtain ⟨mm, hmm, lmm, ow5⟩ := h5
  rw [List.take_length] at hmm
  have hb : backed m.sizes sk e = some mm := hmm
  -- the guard
  refine seq (s_for o5 (i_tup (R := sPr) (xs := e.guard) (e_var rfl)) (fun p => b_t2 b_name b_name)
    (fun _ => [some (sMach K m), some (sNs sk), some (sNat d), none, some (sTup sPr e.guard), some (sTup sChg e.chg), some (sRef l), some (sNs (m.sizes.map fun z => 2 ^ z - 1)), none, none, none, none])
    (fun i w6 => Own w0 l (fun n : Nat => sNat n) ((e.guard.take i).foldl (fun (m : List Nat) (p : Nat × Nat) => m.set p.1 (at0 m p.1 &&& p.2)) mm) w6 ∧ ((e.guard.take i).foldl (fun (m : List Nat) (p : Nat × Nat) => m.set p.1 (at0 m p.1 &&& p.2)) mm).length = m.sizes.length)
    (fun _ _ _ h l => ⟨h.1.up l, h.2⟩) (fun w6 l6 o6 => ⟨o6, ow5.up l6, lmm⟩) (fun i p σ6 w6 hp o6 h6 N hN => ?_) (fun σ6 w6 o6 h6 => ?_))
  · obtain ⟨ow6, len6⟩ := h6
    have hc := (hd.gIn p (List.mem_of_getElem? hp)).1
    refine s_augAnd o6 ow6 (at0_some (by rw [len6]; exact hc)) (e_var rfl) (e_var (s := sNat p.1) rfl) (e_var (s := sNat p.2) rfl) fun w7 l7 ow7 o7 => ?_
    refine hN σ6 w7 _ o7 (fun o => (o.drop 8).drop 11) ⟨?_, ?_⟩ l7.g
    · rw [guard_take hp]
      exact ow7
    · rw [guard_take hp, List.length_set]
      exact len6
  rw [List.take_length] at h6
  obtain ⟨ow6, len6⟩ := h6
  have eg : e.guard.foldl (fun (m : List Nat) (p : Nat × Nat) => m.set p.1 (at0 m p.1 &&& p.2)) mm = guarded mm e := rfl
  rw [eg] at ow6 len6
  obtain ⟨w7, e7, l7, g7, o7⟩ := Own.stable (i := 6) ow6 o6 rfl
  rw [← e7]
  have hall : ((guarded mm e).map fun m => m != 0).all id = !decide (0 ∈ guarded mm e) := by
    rw [Bool.eq_iff_iff]
    simp only [List.all_map, List.all_eq_true, Function.comp_apply, id, bne_iff_ne, ne_eq, Bool.not_eq_true', decide_eq_false_iff_not]
    exact ⟨fun h q => h 0 q rfl, fun h x hx q => h (q ▸ hx)⟩
  have few : (guarded mm e).length ≤ 1000000 := by rw [len6]; have := hm.few; omega
  refine s_ret o7 (e_if (t_B (e_all (el_lcM (Z := fun b : Bool => sBl b) (fun m => m != 0) (i_list (R := fun n : Nat => sNat n) (xs := guarded mm e) (e_var rfl)) few (fun _ => b_name) (by decide) (fun x _ => e_neN (a := x) (b := 0) (e_var rfl) (e_n 0 0))).e))
    (s := sOpt sNs (beforeF m.sizes sk e)) (fun q => ?_) (fun q => ?_)) fun v w8 l8 pv => k v w8 (l7.trans l8) pv
  · have nz : ¬ 0 ∈ guarded mm e := by rw [hall] at q; simpa using q
    have eb : beforeF m.sizes sk e = some (guarded mm e) := by
      unfold beforeF
      rw [hb]
      exact if_neg nz
    rw [eb]
    exact e_tupL (R := fun n : Nat => sNat n) (e_var rfl)
  · have nz : 0 ∈ guarded mm e := by rw [hall] at q; simpa using q
    have eb : beforeF m.sizes sk e = none := by
      unfold beforeF
      rw [hb]
      exact if_pos nz
    rw [eb]
    exact e_c
end
end R40

set_option Elab.async false
set_option linter.all false
set_option maxRecDepth 100000
set_option maxHeartbeats 4000000
/-! Walks: names, orders, a machine is made. -/
namespace R40
open PySem PySem.Spec PyProof.Rows L2 M40
section
variable {Γ : Env} {w : Wd} {s t u : Slot} {te ta tb tc : TE} {tt tu : TT} {K : PySem.W.Frag} {α β : Type} {R : α → Slot} {xs : List α}
theorem e_inS {c : Nat} {z : Str} (ha : E ta Γ w (sStr ⟨#[c]⟩)) (hb : E tb Γ w (sStr z)) : E (tOp rInS ta tb) Γ w (sBl (decide (c ∈ z.cps.toList))) :=
  e_op ha hb fun w2 v y Q _ p p' q => by
    cases p
    cases p'
    exact ⟨c, z, rfl, rfl, q _ w2 .refl rfl⟩
theorem e_notInS {c : Nat} {z : Str} (ha : E ta Γ w (sStr ⟨#[c]⟩)) (hb : E tb Γ w (sStr z)) : E (tOp rNotInS ta tb) Γ w (sBl (!decide (c ∈ z.cps.toList))) :=
  e_op ha hb fun w2 v y Q _ p p' q => by
    cases p
    cases p'
    exact ⟨c, z, rfl, rfl, q _ w2 .refl rfl⟩
theorem i_str {x : Str} (h : E ta Γ w (sStr x)) : I (iStr ta) Γ w x.cps.toList (fun c : Nat => sStr ⟨#[c]⟩) := fun σ w1 l o C c => h σ w1 l o _ fun v w2 l2 p => by
  refine ⟨x, p, c _ w2 l2 ⟨fun i w3 hi g => ?_, fun w3 g => ?_, fun i w3 v H' y hx g z => ?_⟩⟩
  · rw [Array.length_toList] at hi
    exact hi
  · exact Nat.le_of_eq (Array.length_toList ..).symm
  · obtain ⟨e1, d, e2, e3⟩ := z
    rw [Array.getElem?_toList, e2] at hx
    cases hx
    exact ⟨w3, e1, .refl, e3⟩
theorem e_neg {i : Int} (h : E ta Γ w (sInt i)) : E (tUn (rU fun i => .int (-i)) ta) Γ w (sInt (-i)) := fun σ w1 l o Q q => h σ w1 l o _ fun v w2 l2 p => ⟨i, p, q _ w2 l2 rfl⟩
theorem e_meth {ι : Type} {C : Addr} {m : Str} {fs : List (Str × Slot)} {pre : ι → Prop} {as : ι → List Slot} {Φ : ι → Slot} {X : XK} {tg : TA} {ss : List Slot} (x : ι) (hp : pre x) (has : as x = sAny :: ss) (hl : fs.lookup m = none)
    (ha : E ta Γ w (sObj C fs)) (h : EA tg Γ w ss) : E (tMeth C m (spP pre as Φ) [] X ta tg) Γ w (Φ x) := fun σ w1 l o Q q => ha σ w1 l o _ fun v w2 l2 p => by
  obtain ⟨a, dx, vs, rfl, hh, r⟩ := id p
  exact ⟨a, dx, vs, rfl, w2.sub _ _ hh, r.no hl, h σ w2 (l.trans l2) (o.up l2) _ fun us w3 l3 ar => ⟨x, w3, rfl, hp, by rw [has, List.append_nil]; exact .cons trivial ar, fun v w4 l4 p4 => q v w4 (l2.trans (l3.trans l4)) p4⟩⟩
/-- of an instance that is still in the making -/
theorem e_methI {ι : Type} {C p dx : Addr} {m : Str} {w0 : Wd} {fs : List (Str × Slot)} {pre : ι → Prop} {as : ι → List Slot} {Φ : ι → Slot} {X : XK} {tg : TA} {ss : List Slot} (x : ι) (hp : pre x) (has : as x = sAny :: ss) (hl : fs.lookup m = none)
    (ow : OwnI w0 p C dx fs w) (ha : E ta Γ w (sRef p)) (h : EA tg Γ w ss) : E (tMeth C m (spP pre as Φ) [] X ta tg) Γ w (Φ x) := fun σ w1 l o Q q => ha σ w1 l o _ fun v w2 l2 pv => by
  cases pv
  obtain ⟨vs, hh, r⟩ := (ow.up (l.trans l2)).at_
  exact ⟨p, dx, vs, rfl, hh, r.no hl, h σ w2 (l.trans l2) (o.up l2) _ fun us w3 l3 ar => ⟨x, w3, rfl, hp, by rw [has, List.append_nil]; exact .cons trivial ar, fun v w4 l4 p4 => q v w4 (l2.trans (l3.trans l4)) p4⟩⟩
/-- items told anew -/
theorem AllR.re {S : β → Slot} {f : α → β} {G : Hp} {vs : List V} (h : AllR R G vs xs) (k : ∀ x v, (R x).P G v → (S (f x)).P G v) : AllR S G vs (xs.map f) :=
  ⟨by rw [h.len, List.length_map], fun i v y a b => by
    rw [List.getElem?_map] at b
    cases e : xs[i]? with
    | none => rw [e] at b; cases b
    | some x =>
      rw [e] at b
      cases b
      exact k x v (h.at_ i v x a e)⟩
theorem tup_re {S : β → Slot} {f : α → β} (k : ∀ G x v, (R x).P G v → (S (f x)).P G v) : ∀ G v, (sTup R xs).P G v → (sTup S (xs.map f)).P G v := fun G v ⟨a, vs, e, h, r⟩ => ⟨a, vs, e, h, r.re (k G)⟩
theorem lst_re {S : β → Slot} {f : α → β} (k : ∀ G x v, (R x).P G v → (S (f x)).P G v) : ∀ G v, (sLst R xs).P G v → (sLst S (xs.map f)).P G v := fun G v ⟨a, vs, e, h, r⟩ => ⟨a, vs, e, h, r.re (k G)⟩
theorem t2_re {s s' t t' : Slot} (h1 : ∀ G v, s.P G v → s'.P G v) (h2 : ∀ G v, t.P G v → t'.P G v) : ∀ G v, (sT2 s t).P G v → (sT2 s' t').P G v := fun G v ⟨a, x, y, e, h, p, q⟩ => ⟨a, x, y, e, h, h1 _ _ p, h2 _ _ q⟩
theorem t3_re {s s' t t' u u' : Slot} (h1 : ∀ G v, s.P G v → s'.P G v) (h2 : ∀ G v, t.P G v → t'.P G v) (h3 : ∀ G v, u.P G v → u'.P G v) : ∀ G v, (sT3 s t u).P G v → (sT3 s' t' u').P G v := fun G v ⟨a, x, y, z, e, h, p, q, r⟩ => ⟨a, x, y, z, e, h, h1 _ _ p, h2 _ _ q, h3 _ _ r⟩
/-! ### statements ahead of more: what follows stays as it is -/
variable {D : Ends} {σ : L2.St} {ts ts1 ts2 tz : TS}
theorem q_drop (o : EnvOk w.G σ Γ) (h : E te Γ w s) (k : ∀ w2 : Wd, Le w w2 → EnvOk w2.G σ Γ → tz D σ w2.H) : tSeq (tDrop te) tz D σ w.H := s_drop (D := { D with nx := tz D }) o h k
theorem q_asg {g : TG} {js : List Nat} {f : Env → Env} (o : EnvOk w.G σ Γ) (hg : B g s js f) (h : E te Γ w s) (k : ∀ (σ' : L2.St) (w2 : Wd), Le w w2 → EnvOk w2.G σ' (f Γ) → tz D σ' w2.H) : tSeq (tAsg te g) tz D σ w.H := s_asg (D := { D with nx := tz D }) o hg h k
theorem q_set {i : Nat} (o : EnvOk w.G σ Γ) (h : E te Γ w s) (k : ∀ (σ' : L2.St) (w2 : Wd), Le w w2 → EnvOk w2.G σ' (Γ.set i (some s)) → tz D σ' w2.H) : tSeq (tAsg te (gName i)) tz D σ w.H := s_set (D := { D with nx := tz D }) o h k
theorem q_setL {w0 : Wd} {i : Nat} (l0 : Le w0 w) (o : EnvOk w.G σ Γ) (h : EL te Γ w R xs) (k : ∀ (p : Addr) (σ' : L2.St) (w2 : Wd), Le w w2 → Own w0 p R xs w2 → EnvOk w2.G σ' (Γ.set i (some (sRef p))) → w.H p = none → tz D σ' w2.H) : tSeq (tAsg te (gName i)) tz D σ w.H :=
  s_setL (D := { D with nx := tz D }) o h fun p vs σ' w2 l n1 n2 hp r o' => k p σ' w2 l (Own.mk0 l0 l n1 n2 hp r) o' n1
theorem q_app {w0 : Wd} {l : Addr} {x : α} (o : EnvOk w.G σ Γ) (ow : Own w0 l R xs w) (hz : xs.length ≤ 1000000) (ha : E ta Γ w (sRef l)) (h : E te Γ w (R x)) (k : ∀ w2 : Wd, LeB [l] w w2 → Own w0 l R (xs ++ [x]) w2 → EnvOk w2.G σ Γ → tz D σ w2.H) :
    tSeq (tDrop (tBM K "list" rAppend ta (tCons te tNil))) tz D σ w.H := s_app (D := { D with nx := tz D }) o ow hz ha h k
theorem q_fld {w0 : Wd} {C p dx : Addr} {f : Str} {fs : List (Str × Slot)} (o : EnvOk w.G σ Γ) (ow : OwnI w0 p C dx fs w) (hc : Cls K C) (hn : NoAttr K C f) (hf : ¬ f ∈ fs.map (·.1)) (hz : fs.length < 1000) (ht : E te Γ w s) (ha : E ta Γ w (sRef p))
    (k : ∀ w2 : Wd, OwnI w0 p C dx (fs ++ [(f, s)]) w2 → EnvOk w2.G σ Γ → tz D σ w2.H) : tSeq (sFld K ta te f) tz D σ w.H := s_fld (D := { D with nx := tz D }) o ow hc hn hf hz ht ha k
theorem q_if {b : Bool} (o : EnvOk w.G σ Γ) (h : ET tt Γ w b) (h1 : b = true → ∀ w2 : Wd, Le w w2 → EnvOk w2.G σ Γ → ts1 { D with nx := tz D } σ w2.H) (h2 : b = false → ∀ w2 : Wd, Le w w2 → EnvOk w2.G σ Γ → tz D σ w2.H) : tSeq (tIfS tt ts1 tNext) tz D σ w.H := s_ifN o h h1 h2
theorem q_skip {b : Bool} (o : EnvOk w.G σ Γ) (h : ET tt Γ w b) (e : b = false) (h2 : ∀ w2 : Wd, Le w w2 → EnvOk w2.G σ Γ → tz D σ w2.H) : tSeq (tIfS tt ts1 tNext) tz D σ w.H := s_skip o h e h2
theorem q_for {wi : TI} {g : TG} {js : List Nat} {f : α → Env → Env} (o : EnvOk w.G σ Γ) (h : I wi Γ w xs R) (hg : ∀ x, B g (R x) js (f x)) (Γl : Nat → Env) (P : Nat → Wd → Prop) (hm : ∀ i w1 w2, P i w1 → Le w1 w2 → P i w2)
    (h0 : ∀ w1 : Wd, Le w w1 → EnvOk w1.G σ Γ → EnvOk w1.G σ (Γl 0) ∧ P 0 w1)
    (hb : ∀ (i : Nat) (x : α) (σ' : L2.St) (w1 : Wd), xs[i]? = some x → EnvOk w1.G σ' (f x (Γl i)) → P i w1 → ∀ N : L2.St → Hp → Prop,
      (∀ (σ2 : L2.St) (w2 : Wd) (Γ2 : Env), EnvOk w2.G σ2 Γ2 → (EnvOk w2.G σ2 Γ2 → EnvOk w2.G σ2 (Γl (i + 1))) → P (i + 1) w2 → Gx w1 w2 → N σ2 w2.H) → ts { D with nx := N, ct := N, bk := tz D } σ' w1.H)
    (hd : ∀ (σ' : L2.St) (w1 : Wd), EnvOk w1.G σ' (Γl xs.length) → P xs.length w1 → tz D σ' w1.H) : tSeq (tFor wi g ts) tz D σ w.H :=
  s_for (D := { D with nx := tz D }) o h hg Γl P hm h0 hb hd
theorem q_next (h : D.nx σ w.H) : tNext D σ w.H := h
end
section
variable {P : Program} {w : World} {K : PySem.W.Frag} {mg : Str → Option Value} {base : Heap}
abbrev lowerS : Str := "abcdefghijklmnopqrstuvwxyz"
abbrev digitS : Str := "0123456789"
structure NameOk (x : Str) : Prop where
  pos : 0 < x.length
  few : x.length ≤ 12
  head : ∃ c, x.cps.toList[0]? = some c ∧ c ∈ lowerS.cps.toList
  all : ∀ c ∈ x.cps.toList, c ∈ lowerS.cps.toList ∨ c ∈ digitS.cps.toList
abbrev spIsName : Sp := spP (fun x : Str => NameOk x) (fun x => [sStr x]) (fun _ => sBl true)
theorem ok_is_name (T : Txt K mg) : Ok_is_name P w K mg base spIsName := by
  refine okP T.f_is_name sc_is_name (fun _ => rfl) fun cdv A outer s H E hr => ⟨_, (pss_cons (ps_if (PW.pt (pw_or (pt_cmpR op_eq (pe_callB call_len_str (by rfl) T.n_len boot_len (pa_cons (pv 0) pa_nil)) pe_int (nomark _)) (pw_or (pt_cmpR op_gt (pe_callB call_len_str (by rfl) T.n_len boot_len (pa_cons (pv 0) pa_nil)) (pe_glob (v := .int 12) rfl T.g_LONGEST_NAME.choose_spec ⟨_, rfl⟩) (nomark _)) (pw_or1 (pt_cmpR op_notIn_sign (pe_ix ix_str (pv 0) pe_int (fun _ _ => rfl)) (pe_glob (v := .str "abcdefghijklmnopqrstuvwxyz") rfl T.g_LOWER.choose_spec ⟨_, rfl⟩) rfl))))) (pss_one (ps_ret pe_bl)) pss_nil) (pss_one (ps_ret (pe_callB (cr_all rfl) (by rfl) T.n_all (by decide +kernel) (pa_cons (pe_lc (own := [("char", 1)]) (g := (gName 1)) (tt := tYes) (te := (tOrV (tOp rInS (tVar 1) (tC (.str "abcdefghijklmnopqrstuvwxyz"))) (tOp rInS (tVar 1) (tC (.str "0123456789"))))) rfl sc_is_name.nd (pi_str (pv 0)) (blkOk_by (own := [("char", 1)]) (N := N_is_name) (sc := defScope st_is_name) (by decide +kernel)) (fun _ _ _ _ _ => (pg_name (i := 1) sc_is_name.nd rfl (Or.inl rfl))) (fun _ _ _ _ _ => pts_nil) (fun _ _ _ _ _ => (pe_or (pe_cmpR op_in_sign (pv 1) (pe_glob (v := .str "abcdefghijklmnopqrstuvwxyz") rfl T.g_LOWER.choose_spec ⟨_, rfl⟩) rfl) (pe_one (pe_cmpR op_in_sign (pv 1) (pe_glob (v := .str "0123456789") rfl T.g_DIGITS.choose_spec ⟨_, rfl⟩) rfl))))) pa_nil))))), ?_⟩
  rintro x w0 σ Q hx o k
  have hx : NameOk x := hx
  have o : EnvOk w0.G σ [some (sStr x), none] := o
  obtain ⟨c, hc, hcl⟩ := hx.head
  have few : x.length ≤ sizeLine := Nat.le_trans hx.few (by decide)
  refine seq (s_if o (t_is (b := false) (t_or (t_eqN (e_lenS few (e_var rfl)) (e_n 0 0)) fun _ => t_or (t_gtN (e_lenS few (e_var rfl)) (e_n 12 12)) fun _ => t_test (e_notInS (c := c) (e_ixS (i := 0) hc few (e_var rfl) (e_n 0 0)) e_c)) ?_) (fun q => nomatch q) (fun _ w1 l1 o1 => ?_))
  · have h1 : (x.length == 0) = false := by have := hx.pos; simp; omega
    have h2 : decide (12 < x.length) = false := by have := hx.few; simp; omega
    rw [h1, h2, decide_eq_true hcl]
    rfl
  refine s_ret o1 (e_is (e_all (el_lcM (Z := fun b : Bool => sBl b) (fun c => decide (c ∈ lowerS.cps.toList) || decide (c ∈ digitS.cps.toList)) (i_str (x := x) (e_var rfl)) ?_ (fun _ => b_name) (by decide)
    (fun c _ => e_orV (e_inS (c := c) (e_var rfl) e_c) fun _ => e_inS (c := c) (e_var rfl) e_c)).e) ?_) fun v w2 l2 pv => k v w2 (l1.trans l2) pv
  · rw [Array.length_toList]
    have := hx.few
    have e : x.cps.size = x.length := rfl
    omega
  · congr 1
    congr 1
    rw [List.all_map, List.all_eq_true]
    intro c hc
    have q := hx.all c hc
    show (decide _ || decide _) = true
    rw [Bool.or_eq_true, decide_eq_true_eq, decide_eq_true_eq]
    exact q
abbrev spCheckNames : Sp := spP (fun xs : List Str => (∀ x ∈ xs, NameOk x) ∧ xs.Nodup ∧ xs.length ≤ 1000) (fun xs => [sLst (fun x : Str => sStr x) xs]) (fun _ => sNon)
theorem ok__check_names (T : Txt K mg) : Ok__check_names P w K mg base spCheckNames := by
  refine okP T.f__check_names sc__check_names (fun _ => rfl) fun cdv A outer s H E hr => ⟨_, (pss_one (ps_if (PW.pt (pw_or (pt_not (pt_val (pe_callB (cr_all rfl) (by rfl) T.n_all (by decide +kernel) (pa_cons (pe_lc (own := [("name", 1)]) (g := (gName 1)) (tt := tYes) (te := (tCall _ [] E0 (tCons (tVar 1) tNil))) rfl sc__check_names.nd (pi_list (pv 0)) (blkOk_by (own := [("name", 1)]) (N := N__check_names) (sc := defScope st__check_names) (by decide +kernel)) (fun _ _ _ _ _ => (pg_name (i := 1) sc__check_names.nd rfl (Or.inl rfl))) (fun _ _ _ _ _ => pts_nil) (fun _ _ _ _ _ => (pe_call (ok_is_name T) (hr.mono (by decide)) rfl T.g_is_name T.f_is_name.kp T.b_is_name .nil pass0 (pa_cons (pv 1) pa_nil)))) pa_nil)))) (pw_or1 (pt_cmpR op_ne (pe_lenSetS rfl rfl T.n_len (by rfl) T.n_set (pv 0)) (pe_callB call_len_seq (by rfl) T.n_len boot_len (pa_cons (pv 0) pa_nil)) (nomark _))))) (pss_one ps_never) pss_nil)), ?_⟩
  rintro xs w0 σ Q ⟨hx, nd, few⟩ o k
  have hx : ∀ x ∈ xs, NameOk x := hx
  have nd : xs.Nodup := nd
  have few : xs.length ≤ 1000 := few
  have o : EnvOk w0.G σ [some (sLst (fun x : Str => sStr x) xs), none] := o
  refine s_if o (t_is (b := false) (t_or (t_not (t_B (e_all (el_lcM (Z := fun b : Bool => sBl b) (fun _ => true) (i_list (R := fun x : Str => sStr x) (xs := xs) (e_var rfl)) (by omega) (fun _ => b_name) (by decide)
    (fun x h => e_call x (hx x h) (ea_cons (e_var rfl) ea_nil))).e))) fun _ => t_neN (e_lenSet nd few (e_var rfl)) (e_lenL (e_var rfl))) ?_) (fun q => nomatch q) (fun _ w1 l1 o1 => k _ w1 l1 rfl)
  have h1 : (xs.map fun _ => true).all id = true := by rw [List.all_map, List.all_eq_true]; intro _ _; rfl
  rw [h1, bne_self_eq_false]
  rfl
/-- the cells ascend and exist -/
abbrev spCheckOrder : Sp := spP (fun x : List Nat × Nat => Asc x.1 ∧ ∀ c ∈ x.1, c < x.2) (fun x => [sTup (fun c : Nat => sT2 (sNat c) sAny) x.1, sNat x.2]) (fun _ => sNon)
def lastC (l : List Nat) : Int := l.foldl (fun (_ : Int) (c : Nat) => (c : Int)) (-1)
theorem ok__check_order (T : Txt K mg) : Ok__check_order P w K mg base spCheckOrder := by
  refine okP T.f__check_order sc__check_order (fun _ => rfl) fun cdv A outer s H E hr => ⟨_, (pss_cons (ps_set (i := 2) sc__check_order.nd rfl (Or.inl rfl) (pe_un un_neg pe_int)) (pss_one (ps_for PassesOwn.never rfl (pi_tup (pv 0)) (pg_tup rfl (pgs_cons (pg_name (i := 3) sc__check_order.nd rfl (Or.inl rfl)) (pgs_cons (pg_name (i := 4) sc__check_order.nd rfl (Or.inl rfl)) pgs_nil))) (pss_cons (ps_if (PW.pt (pw_or (pt_cmpR op_le (pv 3) (pv 2) (nomark _)) (pw_or1 (pt_cmpR op_ge (pv 3) (pv 1) (nomark _))))) (pss_one ps_never) pss_nil) (pss_one (ps_set (i := 2) sc__check_order.nd rfl (Or.inl rfl) (pv 3))))))), ?_⟩
  rintro ⟨cs, n⟩ w0 σ Q ⟨hasc, hin⟩ o k
  have hasc : Asc cs := hasc
  have hin : ∀ c ∈ cs, c < n := hin
  have o : EnvOk w0.G σ [some (sTup (fun c : Nat => sT2 (sNat c) sAny) cs), some (sNat n), none, none, none] := o
  refine seq (s_set (s := sInt (-1)) o (e_neg e_c) fun σ1 w1 l1 o1 => ?_)
  refine s_for o1 (i_tup (R := fun c : Nat => sT2 (sNat c) sAny) (xs := cs) (e_var rfl)) (fun c => b_t2 b_name b_any) (fun i => [some (sTup (fun c : Nat => sT2 (sNat c) sAny) cs), some (sNat n), some (sInt (lastC (cs.take i))), none, none]) (fun _ w2 => Le w0 w2)
    (fun _ _ _ h l => h.trans l) (fun w2 l2 o2 => ⟨o2, l1.trans l2⟩) (fun i c σ2 w2 hc o2 h2 N hN => ?_) (fun σ2 w2 o2 h2 => k _ w2 h2 rfl)
  have o2 : EnvOk w2.G σ2 [some (sTup (fun c : Nat => sT2 (sNat c) sAny) cs), some (sNat n), some (sInt (lastC (cs.take i))), some (sNat c), some sAny] := o2
  have hlt : lastC (cs.take i) < (c : Int) := by
    unfold lastC
    cases i with
    | zero => show (-1 : Int) < c; omega
    | succ j =>
      have hj : j < cs.length := by have := (List.getElem?_eq_some_iff.mp hc).1; omega
      rw [List.take_add_one, List.getElem?_eq_getElem hj, List.foldl_append]
      show ((cs[j] : Nat) : Int) < c
      obtain ⟨hi, e⟩ := List.getElem?_eq_some_iff.mp hc
      have q := List.pairwise_iff_getElem.mp hasc j (j + 1) hj hi (by omega)
      rw [e] at q
      omega
  have hcn : c < n := hin c (List.mem_of_getElem? hc)
  refine seq (s_if o2 (t_is (b := false) (t_or (t_test (e_I0 (g := fun i j => .bl (decide (i ≤ j))) (i := (c : Int)) (j := lastC (cs.take i)) (e_var rfl) (e_var rfl))) fun _ => t_geN (a := c) (b := n) (e_var rfl) (e_var rfl)) ?_) (fun q => nomatch q) (fun _ w3 l3 o3 => ?_))
  · rw [decide_eq_false (by omega), decide_eq_false (by omega)]
    rfl
  refine s_set o3 (e_var (s := sNat c) rfl) fun σ4 w4 l4 o4 => ?_
  refine hN σ4 w4 _ o4 (fun o => ?_) (h2.trans (l3.trans l4)) (fun a u z => l4.g a u (l3.g a u z))
  have el : lastC (cs.take (i + 1)) = (c : Int) := by
    unfold lastC
    rw [List.take_add_one, hc, List.foldl_append]
    rfl
  rw [el]
  exact (o.drop 3).drop 4
/-- a deed fits the sizes -/
abbrev spCheckDeed : Sp := spP (fun x : List Nat × Deed => (∀ z ∈ x.1, z ≤ 3) ∧ OkDeed x.1 x.2) (fun x => [sAny, sLst (fun n : Nat => sNat n) x.1, sTup sPr x.2.guard, sTup sChg x.2.chg]) (fun _ => sNon)
theorem at0_mem {l : List Nat} {i : Nat} (h : i < l.length) : at0 l i ∈ l := List.mem_of_getElem? (at0_some h)
theorem ok_Machine__check_deed (T : Txt K mg) : Ok_Machine__check_deed P w K mg base spCheckDeed := by
  refine okP T.f_Machine__check_deed sc_Machine__check_deed (fun _ => rfl) fun cdv A outer s H E hr => ⟨_, (pss_cons (ps_for PassesOwn.never rfl (pi_tup (pv 2)) (pg_tup rfl (pgs_cons (pg_name (i := 4) sc_Machine__check_deed.nd rfl (Or.inl rfl)) (pgs_cons (pg_name (i := 5) sc_Machine__check_deed.nd rfl (Or.inl rfl)) pgs_nil))) (pss_one (ps_if (pt_not (pt_val (pe_call (ok_is_mask T) (hr.mono (by decide)) rfl T.g_is_mask T.f_is_mask.kp T.b_is_mask .nil pass0 (pa_cons (pv 5) (pa_cons (pe_ix ix_list (pv 1) (pv 4) (fun _ _ => rfl)) pa_nil))))) (pss_one ps_never) pss_nil))) (pss_one (ps_for PassesOwn.never rfl (pi_tup (pv 3)) (pg_tup rfl (pgs_cons (pg_name (i := 4) sc_Machine__check_deed.nd rfl (Or.inl rfl)) (pgs_cons (pg_tup rfl (pgs_cons (pg_name (i := 6) sc_Machine__check_deed.nd rfl (Or.inl rfl)) (pgs_cons (pg_name (i := 7) sc_Machine__check_deed.nd rfl (Or.inl rfl)) pgs_nil))) pgs_nil))) (pss_cons (ps_if (PW.pt (pw_and (pt_cmpR op_eq (pv 6) pe_str (nomark _)) (pw_and1 (pt_chain op_le op_lt pe_int (pv 7) (pe_ix ix_list (pv 1) (pv 4) (fun _ _ => rfl)))))) (pss_one ps_continue) pss_nil) (pss_one (ps_if (PW.pt (pw_or (pt_cmpR op_ne (pv 6) pe_str (nomark _)) (pw_or (pt_cmpR op_lt (pv 7) pe_int (nomark _)) (pw_or (pt_cmpR op_ge (pv 7) (pe_callB call_len_seq (by rfl) T.n_len boot_len (pa_cons (pv 1) pa_nil)) (nomark _)) (pw_or1 (pt_cmpR op_gt (pe_ix ix_list (pv 1) (pv 7) (fun _ _ => rfl)) (pe_ix ix_list (pv 1) (pv 4) (fun _ _ => rfl)) (nomark _))))))) (pss_one ps_never) pss_nil)))))), ?_⟩
  rintro ⟨z, e⟩ w0 σ Q ⟨hz, he⟩ o k
  have hz : ∀ x ∈ z, x ≤ 3 := hz
  have he : OkDeed z e := he
  have o : EnvOk w0.G σ [some sAny, some (sLst (fun n : Nat => sNat n) z), some (sTup sPr e.guard), some (sTup sChg e.chg), none, none, none, none] := o
  refine seq (s_for o (i_tup (R := sPr) (xs := e.guard) (e_var rfl)) (fun p => b_t2 b_name b_name) (fun _ => [some sAny, some (sLst (fun n : Nat => sNat n) z), some (sTup sPr e.guard), some (sTup sChg e.chg), none, none, none, none]) (fun _ w2 => Le w0 w2)
    (fun _ _ _ h l => h.trans l) (fun w2 l2 o2 => ⟨o2, l2⟩) (fun i p σ2 w2 hp o2 h2 N hN => ?_) (fun σ2 w2 o2 h2 => ?_))
  · obtain ⟨g1, g2, g3⟩ := he.gIn p (List.mem_of_getElem? hp)
    have o2 : EnvOk w2.G σ2 [some sAny, some (sLst (fun n : Nat => sNat n) z), some (sTup sPr e.guard), some (sTup sChg e.chg), some (sNat p.1), some (sNat p.2), none, none] := o2
    refine s_if o2 (t_is (b := false) (t_not (t_B (e_call (p.2, at0 z p.1) (by have := hz _ (at0_mem g1); show at0 z p.1 ≤ 1000; omega) (ea_cons (e_var rfl) (ea_cons (e_ixL (R := fun n : Nat => sNat n) (i := p.1) (at0_some g1) (e_var rfl) (e_var rfl)) ea_nil))))) ?_) (fun q => nomatch q) (fun _ w3 l3 o3 => ?_)
    · show (!decide (0 < p.2 ∧ p.2 < 2 ^ at0 z p.1)) = false
      rw [decide_eq_true ⟨g2, g3⟩]
      rfl
    · exact hN σ2 w3 _ o3 (fun o => (o.drop 4).drop 5) (h2.trans l3) l3.g
  refine s_for o2 (i_tup (R := sChg) (xs := e.chg) (e_var rfl)) (fun p => b_t2 b_name (B.imp (b_t2 (s := sStr (srcKind p.2)) (t := sNat (srcNum p.2)) b_name b_name) fun _ _ h => src_kind h))
    (fun _ => [some sAny, some (sLst (fun n : Nat => sNat n) z), some (sTup sPr e.guard), some (sTup sChg e.chg), none, none, none, none]) (fun _ w3 => Le w0 w3)
    (fun _ _ _ h l => h.trans l) (fun w3 l3 o3 => ⟨o3, h2.trans l3⟩) (fun i p σ3 w3 hp o3 h3 N hN => ?_) (fun σ3 w3 o3 h3 => k _ w3 h3 rfl)
  obtain ⟨c1, c2⟩ := he.cIn p (List.mem_of_getElem? hp)
  obtain ⟨c, r⟩ := p
  have izc : z[c]? = some (at0 z c) := at0_some c1
  cases r with
  | put v =>
    have c2 : v < at0 z c := c2
    have o3 : EnvOk w3.G σ3 [some sAny, some (sLst (fun n : Nat => sNat n) z), some (sTup sPr e.guard), some (sTup sChg e.chg), some (sNat c), none, some (sStr "set"), some (sNat v)] := o3
    refine seq (s_if o3 (t_is (b := true) (t_and (t_is (b := true) (t_test (e_eq (x := .str "set") (y := .str "set") rfl (e_var rfl) e_c)) (decide_eq_true rfl)) fun _ =>
      t_test (e_chain (g := fun i j => decide (i ≤ j)) (g' := fun i j => decide (i < j)) (i := 0) (j := (v : Int)) (k := (at0 z c : Int)) e_c (e_var rfl) fun _ => e_ixL (R := fun n : Nat => sNat n) (i := c) izc (e_var rfl) (e_var rfl))) ?_) (fun _ w4 l4 o4 => ?_) (fun q => nomatch q))
    · simp
      omega
    · exact hN σ3 w4 _ o4 (fun o => ((o.drop 4).drop 6).drop 7) (h3.trans l4) l4.g
  | copy b =>
    obtain ⟨c2, c3⟩ := (show b < z.length ∧ at0 z b ≤ at0 z c from c2)
    have o3 : EnvOk w3.G σ3 [some sAny, some (sLst (fun n : Nat => sNat n) z), some (sTup sPr e.guard), some (sTup sChg e.chg), some (sNat c), none, some (sStr "copy"), some (sNat b)] := o3
    refine seq (s_if o3 (t_is (b := false) (t_and (t_is (b := false) (t_test (e_eq (x := .str "copy") (y := .str "set") rfl (e_var rfl) e_c)) (decide_eq_false (by intro q; injection q with q; exact absurd q (by decide +kernel)))) fun q => nomatch q) (Bool.false_and true)) (fun q => nomatch q) (fun _ w4 l4 o4 => ?_))
    refine s_if o4 (t_is (b := false) (t_or (t_is (b := false) (t_test (e_ne (x := .str "copy") (y := .str "copy") rfl (e_var rfl) e_c)) (by decide)) fun _ =>
      t_or (t_ltN (a := b) (b := 0) (e_var rfl) (e_n 0 0)) fun _ => t_or (t_geN (a := b) (b := z.length) (e_var rfl) (e_lenL (e_var rfl))) fun _ => t_gtN (e_ixL (R := fun n : Nat => sNat n) (i := b) (at0_some c2) (e_var rfl) (e_var rfl)) (e_ixL (R := fun n : Nat => sNat n) (i := c) izc (e_var rfl) (e_var rfl))) ?_) (fun q => nomatch q) (fun _ w5 l5 o5 => ?_)
    · rw [decide_eq_false (by omega), decide_eq_false (by omega), decide_eq_false (by omega)]
      rfl
    · exact hN σ3 w5 _ o5 (fun o => ((o.drop 4).drop 6).drop 7) (h3.trans (l4.trans l5)) (fun a u z => l5.g a u (l4.g a u z))
end
end R40

set_option Elab.async false
set_option linter.all false
set_option maxRecDepth 100000
set_option maxHeartbeats 4000000
/-! Walk: a machine is made; papers and answers are made; the questions' checks. -/
namespace R40
open PySem PySem.Spec PyProof.Rows L2 M40
section
variable {P : Program} {w : World} {K : PySem.W.Frag} {mg : Str → Option Value} {base : Heap}
structure MachIn where
  cells : List (Str × Nat)
  named : List (Str × Deed)
  m : Mach
structure MachOk (x : MachIn) : Prop where
  ok : OkM x.m
  sizes : x.m.sizes = x.cells.map (·.2)
  deeds : x.m.deeds = x.named.map (·.2)
  names : (∀ n ∈ x.cells.map (·.1), NameOk n) ∧ (x.cells.map (·.1)).Nodup
  dnames : (∀ n ∈ x.named.map (·.1), NameOk n) ∧ (x.named.map (·.1)).Nodup
abbrev sNamed (p : Str × Nat) : Slot := sT2 (sStr p.1) (sNat p.2)
abbrev sNDeed (p : Str × Deed) : Slot := sDeedN (sStr p.1) p.2
abbrev spMachInit (K : PySem.W.Frag) : Sp := spI (He.ga K "Machine") (fun x : MachIn => MachOk x) (fun x => [sLst sNamed x.cells, sLst sNDeed x.named, sNs x.m.first])
  (fun x => [("cells", sTup sCell x.m.sizes), ("deeds", sTup sDeed x.m.deeds), ("first", sNs x.m.first)])
theorem ok_Machine_init (T : Txt K mg) : Ok_Machine_init P w K mg base (spMachInit K) := by
  refine okI T.f_Machine_init sc_Machine_init (fun _ => rfl) fun cdv A outer s H E hr => ⟨_, (pss_cons (ps_if (PW.pt (pw_or (pt_cmpR op_lt (pe_callB call_len_seq (by rfl) T.n_len boot_len (pa_cons (pv 1) pa_nil)) pe_int (nomark _)) (pw_or (pt_cmpR op_gt (pe_callB call_len_seq (by rfl) T.n_len boot_len (pa_cons (pv 1) pa_nil)) (pe_glob (v := .int 24) rfl T.g_MOST_CELLS.choose_spec ⟨_, rfl⟩) (nomark _)) (pw_or1 (pt_cmpR op_gt (pe_callB call_len_seq (by rfl) T.n_len boot_len (pa_cons (pv 2) pa_nil)) (pe_glob (v := .int 400) rfl T.g_MOST_DEEDS.choose_spec ⟨_, rfl⟩) (nomark _)))))) (pss_one ps_never) pss_nil) (pss_cons (ps_expr (pe_call (ok__check_names T) (hr.mono (by decide)) rfl T.g__check_names T.f__check_names.kp T.b__check_names .nil pass0 (pa_cons (pe_lc (own := [("name", 8), ("_", 5)]) (g := (gTup K 2 (gCons (gName 8) (gCons (gName 5) gNil)))) (tt := tYes) (te := (tVar 8)) rfl sc_Machine_init.nd (pi_list (pv 1)) (blkOk_by (own := [("name", 8), ("_", 5)]) (N := N_Machine_init) (sc := defScope st_Machine_init) (by decide +kernel)) (fun _ _ _ _ _ => (pg_tup rfl (pgs_cons (pg_name (i := 8) sc_Machine_init.nd rfl (Or.inl rfl)) (pgs_cons (pg_name (i := 5) sc_Machine_init.nd rfl (Or.inl rfl)) pgs_nil)))) (fun _ _ _ _ _ => pts_nil) (fun _ _ _ _ _ => (pv 8))) pa_nil))) (pss_cons (ps_setLc (i := 4) (own := [("_", 5), ("size", 9)]) (g := (gTup K 2 (gCons (gName 5) (gCons (gName 9) gNil)))) (tt := tYes) (te := (tVar 9)) rfl sc_Machine_init.nd rfl rfl (sw_true rfl rfl rfl (by decide +kernel)) (pi_list (pv 1)) (blkOk_by (own := [("_", 5), ("size", 9)]) (N := N_Machine_init) (sc := defScope st_Machine_init) (by decide +kernel)) (fun _ _ _ _ _ => (pg_tup rfl (pgs_cons (pg_name (i := 5) sc_Machine_init.nd rfl (Or.inl rfl)) (pgs_cons (pg_name (i := 9) sc_Machine_init.nd rfl (Or.inl rfl)) pgs_nil)))) (fun _ _ _ _ _ => pts_nil) (fun _ _ _ _ _ => (pv 9))) (pss_cons (ps_if (pt_not (pt_val (pe_callB (cr_all rfl) (by rfl) T.n_all (by decide +kernel) (pa_cons (pe_lc (own := [("size", 9)]) (g := (gName 9)) (tt := tYes) (te := (tChain (rI0 fun i j => .bl (decide (i ≤ j))) (rI0 fun i j => .bl (decide (i ≤ j))) (tC (.int 1)) (tVar 9) (tC (.int 16)))) rfl sc_Machine_init.nd (pi_list (pv 4)) (blkOk_by (own := [("size", 9)]) (N := N_Machine_init) (sc := defScope st_Machine_init) (by decide +kernel)) (fun _ _ _ _ _ => (pg_name (i := 9) sc_Machine_init.nd rfl (Or.inl rfl))) (fun _ _ _ _ _ => pts_nil) (fun _ _ _ _ _ => (pe_chain op_le op_le pe_int (pv 9) (pe_glob (v := .int 16) rfl T.g_MOST_VALUES.choose_spec ⟨_, rfl⟩)))) pa_nil)))) (pss_one ps_never) pss_nil) (pss_cons (ps_expr (pe_call (ok__check_names T) (hr.mono (by decide)) rfl T.g__check_names T.f__check_names.kp T.b__check_names .nil pass0 (pa_cons (pe_lc (own := [("deed", 10)]) (g := (gName 10)) (tt := tYes) (te := (tOp (rIxT K) (tVar 10) (tC (.int 0)))) rfl sc_Machine_init.nd (pi_list (pv 2)) (blkOk_by (own := [("deed", 10)]) (N := N_Machine_init) (sc := defScope st_Machine_init) (by decide +kernel)) (fun _ _ _ _ _ => (pg_name (i := 10) sc_Machine_init.nd rfl (Or.inl rfl))) (fun _ _ _ _ _ => pts_nil) (fun _ _ _ _ _ => (pe_ix ix_tup (pv 10) pe_int (fun _ _ => rfl)))) pa_nil))) (pss_cons (ps_for PassesOwn.never rfl (pi_list (pv 2)) (pg_tup rfl (pgs_cons (pg_name (i := 5) sc_Machine_init.nd rfl (Or.inl rfl)) (pgs_cons (pg_name (i := 6) sc_Machine_init.nd rfl (Or.inl rfl)) (pgs_cons (pg_name (i := 7) sc_Machine_init.nd rfl (Or.inl rfl)) pgs_nil)))) (pss_cons (ps_expr (pe_call (ok__check_order T) (hr.mono (by decide)) rfl T.g__check_order T.f__check_order.kp T.b__check_order .nil pass0 (pa_cons (pv 6) (pa_cons (pe_callB call_len_seq (by rfl) T.n_len boot_len (pa_cons (pv 1) pa_nil)) pa_nil)))) (pss_cons (ps_expr (pe_call (ok__check_order T) (hr.mono (by decide)) rfl T.g__check_order T.f__check_order.kp T.b__check_order .nil pass0 (pa_cons (pv 7) (pa_cons (pe_callB call_len_seq (by rfl) T.n_len boot_len (pa_cons (pv 1) pa_nil)) pa_nil)))) (pss_one (ps_expr (pe_meth (pv 0) T.c_Machine T.m_Machine__check_deed (ok_Machine__check_deed T) (hr.mono (by decide)) T.b_Machine__check_deed .nil pass0 (pa_cons (pv 4) (pa_cons (pv 6) (pa_cons (pv 7) pa_nil))))))))) (pss_cons (ps_if (PW.pt (pw_or (pt_cmpR op_ne (pe_callB call_len_seq (by rfl) T.n_len boot_len (pa_cons (pv 3) pa_nil)) (pe_callB call_len_seq (by rfl) T.n_len boot_len (pa_cons (pv 1) pa_nil)) (nomark _)) (pw_or1 (pt_not (pt_val (pe_callB (cr_all rfl) (by rfl) T.n_all (by decide +kernel) (pa_cons (pe_lc (own := [("mask", 11), ("size", 9)]) (g := (gTup K 2 (gCons (gName 11) (gCons (gName 9) gNil)))) (tt := tYes) (te := (tCall _ [] E0 (tCons (tVar 11) (tCons (tVar 9) tNil)))) rfl sc_Machine_init.nd (pi_zipTL (by rfl) T.n_zip (pa_cons (pv 3) (pa_cons (pv 4) pa_nil))) (blkOk_by (own := [("mask", 11), ("size", 9)]) (N := N_Machine_init) (sc := defScope st_Machine_init) (by decide +kernel)) (fun _ _ _ _ _ => (pg_tup rfl (pgs_cons (pg_name (i := 11) sc_Machine_init.nd rfl (Or.inl rfl)) (pgs_cons (pg_name (i := 9) sc_Machine_init.nd rfl (Or.inl rfl)) pgs_nil)))) (fun _ _ _ _ _ => pts_nil) (fun _ _ _ _ _ => (pe_call (ok_is_mask T) (hr.mono (by decide)) rfl T.g_is_mask T.f_is_mask.kp T.b_is_mask .nil pass0 (pa_cons (pv 11) (pa_cons (pv 9) pa_nil))))) pa_nil))))))) (pss_one ps_never) pss_nil) (pss_cons (ps_fld (pv 0) (pe_callTy call_tuple_of (by rfl) T.n_tuple (by decide +kernel) (pa_cons (pe_lc (own := [("name", 8), ("size", 9)]) (g := (gTup K 2 (gCons (gName 8) (gCons (gName 9) gNil)))) (tt := tYes) (te := (tTup (tCons (tVar 8) (tCons (tVar 9) tNil)))) rfl sc_Machine_init.nd (pi_list (pv 1)) (blkOk_by (own := [("name", 8), ("size", 9)]) (N := N_Machine_init) (sc := defScope st_Machine_init) (by decide +kernel)) (fun _ _ _ _ _ => (pg_tup rfl (pgs_cons (pg_name (i := 8) sc_Machine_init.nd rfl (Or.inl rfl)) (pgs_cons (pg_name (i := 9) sc_Machine_init.nd rfl (Or.inl rfl)) pgs_nil)))) (fun _ _ _ _ _ => pts_nil) (fun _ _ _ _ _ => (pe_tup (pa_cons (pv 8) (pa_cons (pv 9) pa_nil))))) pa_nil)) rfl) (pss_cons (ps_fld (pv 0) (pe_callTy call_tuple_of (by rfl) T.n_tuple (by decide +kernel) (pa_cons (pe_lc (own := [("name", 8), ("guard", 6), ("changes", 7)]) (g := (gTup K 3 (gCons (gName 8) (gCons (gName 6) (gCons (gName 7) gNil))))) (tt := tYes) (te := (tTup (tCons (tVar 8) (tCons (tCB (rTupOf K) (tCons (tVar 6) tNil)) (tCons (tCB (rTupOf K) (tCons (tVar 7) tNil)) tNil))))) rfl sc_Machine_init.nd (pi_list (pv 2)) (blkOk_by (own := [("name", 8), ("guard", 6), ("changes", 7)]) (N := N_Machine_init) (sc := defScope st_Machine_init) (by decide +kernel)) (fun _ _ _ _ _ => (pg_tup rfl (pgs_cons (pg_name (i := 8) sc_Machine_init.nd rfl (Or.inl rfl)) (pgs_cons (pg_name (i := 6) sc_Machine_init.nd rfl (Or.inl rfl)) (pgs_cons (pg_name (i := 7) sc_Machine_init.nd rfl (Or.inl rfl)) pgs_nil))))) (fun _ _ _ _ _ => pts_nil) (fun _ _ _ _ _ => (pe_tup (pa_cons (pv 8) (pa_cons (pe_callTy call_tuple_of (by rfl) T.n_tuple (by decide +kernel) (pa_cons (pv 6) pa_nil)) (pa_cons (pe_callTy call_tuple_of (by rfl) T.n_tuple (by decide +kernel) (pa_cons (pv 7) pa_nil)) pa_nil)))))) pa_nil)) rfl) (pss_one (ps_fld (pv 0) (pe_callTy call_tuple_of (by rfl) T.n_tuple (by decide +kernel) (pa_cons (pv 3) pa_nil)) rfl))))))))))), ?_⟩
  rintro x w0 p dx σ Q hx o hh hg k
  have hx : MachOk x := hx
  have hm := hx.ok
  have lc : x.cells.length = x.m.sizes.length := by rw [hx.sizes, List.length_map]
  have ld : x.named.length = x.m.deeds.length := by rw [hx.deeds, List.length_map]
  have hpos := hm.pos
  have hfew := hm.few
  have hdeeds := hm.deeds
  have ow0 := OwnI.start (C := He.ga K "Machine") hh hg
  have o : EnvOk w0.G σ [some (sRef p), some (sLst sNamed x.cells), some (sLst sNDeed x.named), some (sNs x.m.first), none, none, none, none, none, none, none, none] := o
  refine q_skip o (t_or (t_ltN (b := 1) (e_lenL (e_var rfl)) (e_n 1 1)) fun _ => t_or (t_gtN (b := 24) (e_lenL (e_var rfl)) (e_n 24 24)) fun _ => t_gtN (b := 400) (e_lenL (R := sNDeed) (e_var rfl)) (e_n 400 400)) ?_ fun w1 l1 o1 => ?_
  · rw [decide_eq_false (by omega), decide_eq_false (by omega), decide_eq_false (by omega)]
    rfl
  refine q_drop o1 (e_call (x.cells.map (fun p : Str × Nat => p.1)) ⟨hx.names.1, hx.names.2, by rw [List.length_map]; omega⟩ (ea_cons (el_lcM (Z := fun x : Str => sStr x) (fun p : Str × Nat => p.1) (i_list (R := sNamed) (e_var rfl)) (by omega) (fun _ => b_t2 b_name b_name) (by decide) (fun p _ => e_var rfl)).e ea_nil)) fun w2 l2 o2 => ?_
  refine q_set o2 (e_is (el_lcM (Z := fun n : Nat => sNat n) (fun p : Str × Nat => p.2) (i_list (R := sNamed) (e_var rfl)) (by omega) (fun _ => b_t2 b_name b_name) (by decide) (fun p _ => e_var rfl)).e (by rw [← hx.sizes])) fun σ3 w3 l3 o3 => ?_
  have o3 : EnvOk w3.G σ3 [some (sRef p), some (sLst sNamed x.cells), some (sLst sNDeed x.named), some (sNs x.m.first), some (sLst (fun n : Nat => sNat n) x.m.sizes), none, none, none, none, none, none, none] := o3
  refine q_skip o3 (t_not (t_B (e_all (el_lcM (Z := fun b : Bool => sBl b) (fun z : Nat => decide ((1 : Int) ≤ (z : Int)) && decide ((z : Int) ≤ 16)) (i_list (R := fun n : Nat => sNat n) (xs := x.m.sizes) (e_var rfl)) (by omega) (fun _ => b_name) (by decide)
    (fun z _ => e_chain (g := fun i j => decide (i ≤ j)) (g' := fun i j => decide (i ≤ j)) e_c (e_var rfl) fun _ => e_c)).e))) ?_ fun w4 l4 o4 => ?_
  · rw [Bool.not_eq_false', List.all_map, List.all_eq_true]
    intro z hz
    have := szs hm hz
    show (decide _ && decide _) = true
    rw [Bool.and_eq_true, decide_eq_true_eq, decide_eq_true_eq]
    omega
  refine q_drop o4 (e_call (x.named.map (fun p : Str × Deed => p.1)) ⟨hx.dnames.1, hx.dnames.2, by rw [List.length_map]; omega⟩ (ea_cons (el_lcM (Z := fun x : Str => sStr x) (fun p : Str × Deed => p.1) (i_list (R := sNDeed) (e_var rfl)) (by omega) (fun _ => b_name) (by decide) (fun p _ => e_ix3a (e_var rfl))).e ea_nil)) fun w5 l5 o5 => ?_
  have l05 : Le w0 w5 := l1.trans (l2.trans (l3.trans (l4.trans l5)))
  have ow5 := ow0.up l05
  have G6 : Env := [some (sRef p), some (sLst sNamed x.cells), some (sLst sNDeed x.named), some (sNs x.m.first), some (sLst (fun n : Nat => sNat n) x.m.sizes), none, none, none, none, none, none, none]
  refine q_for o5 (i_list (R := sNDeed) (xs := x.named) (e_var rfl)) (fun p => b_t3 b_name b_name b_name) (fun _ => [some (sRef p), some (sLst sNamed x.cells), some (sLst sNDeed x.named), some (sNs x.m.first), some (sLst (fun n : Nat => sNat n) x.m.sizes), none, none, none, none, none, none, none])
    (fun _ w6 => Le w5 w6) (fun _ _ _ h l => h.trans l) (fun w6 l6 o6 => ⟨o6, l6⟩) (fun i e σ6 w6 he o6 h6 N hN => ?_) (fun σ6 w6 o6 h6 => ?_)
  · have o6 : EnvOk w6.G σ6 [some (sRef p), some (sLst sNamed x.cells), some (sLst sNDeed x.named), some (sNs x.m.first), some (sLst (fun n : Nat => sNat n) x.m.sizes), some (sStr e.1), some (sTup sPr e.2.guard), some (sTup sChg e.2.chg), none, none, none, none] := o6
    have hd : OkDeed x.m.sizes e.2 := hm.deed e.2 (by rw [hx.deeds]; exact List.mem_map.mpr ⟨e, List.mem_of_getElem? he, rfl⟩)
    have q1 : ∀ c ∈ e.2.guard.map (·.1), c < x.cells.length := fun c hc => by
      obtain ⟨p, hp, rfl⟩ := List.mem_map.mp hc
      rw [lc]
      exact (hd.gIn p hp).1
    have q2 : ∀ c ∈ e.2.chg.map (·.1), c < x.cells.length := fun c hc => by
      obtain ⟨p, hp, rfl⟩ := List.mem_map.mp hc
      rw [lc]
      exact (hd.cIn p hp).1
    refine q_drop o6 (e_call (e.2.guard.map (·.1), x.cells.length) ⟨hd.gAsc, q1⟩ (ea_cons (R40.E.imp (e_var rfl) (tup_re fun G p v h => t2_re (fun _ _ h => h) (fun _ _ _ => trivial) G v h)) (ea_cons (e_lenL (e_var rfl)) ea_nil))) fun w7 l7 o7 => ?_
    refine q_drop o7 (e_call (e.2.chg.map (·.1), x.cells.length) ⟨hd.cAsc, q2⟩ (ea_cons (R40.E.imp (e_var rfl) (tup_re fun G p v h => t2_re (fun _ _ h => h) (fun _ _ _ => trivial) G v h)) (ea_cons (e_lenL (e_var rfl)) ea_nil))) fun w8 l8 o8 => ?_
    refine s_drop o8 (e_methI (x.m.sizes, e.2) ⟨fun z hz => (szs hm hz).2, hd⟩ rfl rfl (ow5.up (h6.trans (l7.trans l8))) (e_var rfl) (ea_cons (e_var rfl) (ea_cons (e_var rfl) (ea_cons (e_var rfl) ea_nil)))) fun w9 l9 o9 => ?_
    exact hN σ6 w9 _ o9 (fun o => ((o.drop 5).drop 6).drop 7) (h6.trans (l7.trans (l8.trans l9))) (fun a u z => l9.g a u (l8.g a u (l7.g a u z)))
  have ow6 := ow5.up h6
  have zipok : ∀ q ∈ x.m.first.zip x.m.sizes, decide (0 < q.1 ∧ q.1 < 2 ^ q.2) = true := fun q hq => by
    obtain ⟨i, hi⟩ := List.mem_iff_getElem?.mp hq
    obtain ⟨z1, z2⟩ := zip_at hi
    have hi2 : i < x.m.sizes.length := (List.getElem?_eq_some_iff.mp z2).1
    have b1 := hm.first.2 i hi2
    rw [at0_of z1, at0_of z2] at b1
    exact decide_eq_true b1
  have zipfew : (x.m.first.zip x.m.sizes).length ≤ 1000000 := by rw [List.length_zip]; omega
  refine q_skip o6 (t_or (t_neN (e_lenT (R := fun n : Nat => sNat n) (e_var rfl)) (e_lenL (e_var rfl))) fun _ => t_not (t_B (e_all (el_lcM (Z := fun b : Bool => sBl b) (fun p : Nat × Nat => decide (0 < p.1 ∧ p.1 < 2 ^ p.2))
    (i_zipTL (R := fun n : Nat => sNat n) (S := fun n : Nat => sNat n) hm.first.1 (e_var rfl) (e_var rfl)) zipfew (fun _ => b_t2 b_name b_name) (by decide)
    (fun q hq => e_call (q.1, q.2) (by
      obtain ⟨i, hi⟩ := List.mem_iff_getElem?.mp hq
      have := szs hm (List.mem_of_getElem? (zip_at hi).2)
      show q.2 ≤ 1000
      omega) (ea_cons (e_var rfl) (ea_cons (e_var rfl) ea_nil)))).e))) ?_ fun w7 l7 o7 => ?_
  · have h1 : x.m.first.length = x.cells.length := by rw [lc, hm.first.1]
    have h2 : ((x.m.first.zip x.m.sizes).map fun p : Nat × Nat => decide (0 < p.1 ∧ p.1 < 2 ^ p.2)).all id = true := by
      rw [List.all_map, List.all_eq_true]
      exact zipok
    rw [h1, bne_self_eq_false, h2]
    rfl
  have ow7 := ow6.up l7
  refine q_fld o7 ow7 T.c_Machine T.a_Machine_cells (by simp) (by decide) (s := sTup sCell x.m.sizes) (e_is (e_tupN (el_lcM (Z := sCell) (fun p : Str × Nat => p.2) (i_list (R := sNamed) (xs := x.cells) (e_var rfl)) (by omega) (fun _ => b_t2 b_name b_name) (by decide)
    (fun p _ => R40.E.imp (e_tup2 (s := sStr p.1) (t := sNat p.2) (e_var rfl) (e_var rfl)) (t2_re (fun _ _ _ => trivial) fun _ _ h => h)))) (by rw [← hx.sizes])) (e_var rfl) fun w8 ow8 o8 => ?_
  refine q_fld o8 ow8 T.c_Machine T.a_Machine_deeds (by show ¬ ("deeds" : Str) ∈ (["cells"] : List Str); decide +kernel) (by show 1 < 1000; decide) (s := sTup sDeed x.m.deeds) (e_is (e_tupN (el_lcM (Z := sDeed) (fun p : Str × Deed => p.2) (i_list (R := sNDeed) (xs := x.named) (e_var rfl)) (by omega) (fun _ => b_t3 b_name b_name b_name) (by decide)
    (fun p _ => R40.E.imp (e_tup3 (s := sStr p.1) (t := sTup sPr p.2.guard) (u := sTup sChg p.2.chg) (e_var rfl) (e_tupT (e_var rfl)) (e_tupT (e_var rfl))) (t3_re (fun _ _ _ => trivial) (fun _ _ h => h) fun _ _ h => h)))) (by rw [← hx.deeds])) (e_var rfl) fun w9 ow9 o9 => ?_
  refine s_fld o9 ow9 T.c_Machine T.a_Machine_first (by show ¬ ("first" : Str) ∈ (["cells", "deeds"] : List Str); decide +kernel) (by show 2 < 1000; decide) (s := sNs x.m.first) (e_tupT (e_var rfl)) (e_var rfl) fun w10 ow10 o10 => ?_
  obtain ⟨vs, a, r⟩ := ow10.at_
  exact k w10 vs ow10.le ow10.g a r
end
end R40

set_option linter.all false
set_option maxHeartbeats 4000000
/-! What stays valid; how many there can be. -/
namespace M40
theorem at0_of {l : List Nat} {i x : Nat} (h : l[i]? = some x) : at0 l i = x := by
  unfold at0
  rw [List.getD_eq_getElem?_getD, h]
  rfl
theorem at0_some {l : List Nat} {i : Nat} (h : i < l.length) : l[i]? = some (at0 l i) := by
  have q : l[i]? = some l[i] := List.getElem?_eq_getElem h
  rw [at0_of q]
  exact q
theorem at0_ext {a b : List Nat} (hl : a.length = b.length) (h : ∀ i, i < a.length → at0 a i = at0 b i) : a = b := by
  refine List.ext_getElem? fun i => ?_
  by_cases hi : i < a.length
  · rw [at0_some hi, at0_some (by rw [← hl]; exact hi), h i hi]
  · rw [List.getElem?_eq_none (by omega), List.getElem?_eq_none (by omega)]
theorem at0_out {l : List Nat} {i : Nat} (h : l.length ≤ i) : at0 l i = 0 := by
  unfold at0
  rw [List.getD_eq_getElem?_getD, List.getElem?_eq_none h]
  rfl
theorem at0_set {l : List Nat} {i j v : Nat} : at0 (l.set i v) j = if i = j ∧ j < l.length then v else at0 l j := by
  by_cases hj : j < l.length
  · by_cases e : i = j
    · subst e
      rw [if_pos ⟨rfl, hj⟩]
      exact at0_of (List.getElem?_set_self hj)
    · rw [if_neg (fun q => e q.1)]
      unfold at0
      rw [List.getD_eq_getElem?_getD, List.getD_eq_getElem?_getD, List.getElem?_set_ne e]
  · rw [if_neg (fun q => hj q.2), at0_out (by rw [List.length_set]; omega), at0_out (by omega)]
theorem at0_map {l : List Nat} {f : Nat → Nat} {i : Nat} (h : i < l.length) : at0 (l.map f) i = f (at0 l i) := by
  refine at0_of ?_
  rw [List.getElem?_map, at0_some h]
  rfl
theorem at0_zw {f : Nat → Nat → Nat} {a b : List Nat} {i : Nat} (h1 : i < a.length) (h2 : i < b.length) : at0 (List.zipWith f a b) i = f (at0 a i) (at0 b i) := by
  refine at0_of ?_
  rw [List.getElem?_zipWith, at0_some h1, at0_some h2]
theorem mem_at0 {l : List Nat} {x : Nat} : x ∈ l ↔ ∃ i, i < l.length ∧ at0 l i = x := by
  constructor
  · intro h
    obtain ⟨i, hi⟩ := List.mem_iff_getElem?.mp h
    exact ⟨i, (List.getElem?_eq_some_iff.mp hi).1, at0_of hi⟩
  · rintro ⟨i, hi, rfl⟩
    exact List.mem_of_getElem? (at0_some hi)
/-! ### meet, split, without -/
theorem meet_some {a b c : List Nat} (h : meetF a b = some c) : c = List.zipWith (· &&& ·) a b ∧ ¬ 0 ∈ c := by
  unfold meetF at h
  split at h
  · cases h
  · rename_i q
    cases h
    exact ⟨rfl, q⟩
theorem meet_none {a b : List Nat} (h : meetF a b = none) : 0 ∈ List.zipWith (· &&& ·) a b := by
  unfold meetF at h
  split at h
  · rename_i q
    exact q
  · cases h
theorem meet_ok {z a b c : List Nat} (ha : OkSk z a) (hb : b.length = z.length) (h : meetF a b = some c) : OkSk z c := by
  obtain ⟨rfl, h0⟩ := meet_some h
  have hl : (List.zipWith (· &&& ·) a b).length = z.length := by rw [List.length_zipWith, ha.1, hb]; omega
  refine ⟨hl, fun i hi => ?_⟩
  have e : at0 (List.zipWith (· &&& ·) a b) i = at0 a i &&& at0 b i := at0_zw (by rw [ha.1]; exact hi) (by rw [hb]; exact hi)
  have nz : at0 (List.zipWith (· &&& ·) a b) i ≠ 0 := fun q => h0 (mem_at0.mpr ⟨i, by rw [hl]; exact hi, q⟩)
  refine ⟨Nat.pos_of_ne_zero nz, ?_⟩
  rw [e]
  exact Nat.lt_of_le_of_lt Nat.and_le_left (ha.2 i hi).2
theorem part_at {a c : List Nat} {k i : Nat} (hc : c.length = a.length) (hk : k < a.length) (hi : i < a.length) :
    at0 (splitPart a c k) i = if i < k then at0 c i else if i = k then at0 a k ^^^ at0 c k else at0 a i := by
  unfold splitPart
  have lt : (c.take k).length = k := by rw [List.length_take]; omega
  by_cases h1 : i < k
  · rw [if_pos h1]
    refine at0_of ?_
    rw [List.append_assoc, List.getElem?_append_left (by rw [lt]; exact h1), List.getElem?_take, if_pos h1, at0_some (by omega)]
  · rw [if_neg h1]
    by_cases h2 : i = k
    · subst h2
      rw [if_pos rfl]
      refine at0_of ?_
      rw [List.append_assoc, List.getElem?_append_right (by rw [lt]; exact Nat.le_refl _), lt, Nat.sub_self]
      rfl
    · rw [if_neg h2]
      refine at0_of ?_
      rw [List.getElem?_append_right (by rw [List.length_append, lt]; show k + 1 ≤ i; omega), List.length_append, lt, List.getElem?_drop]
      show a[k + 1 + (i - (k + 1))]? = _
      rw [show k + 1 + (i - (k + 1)) = i by omega]
      exact at0_some hi
theorem part_len {a c : List Nat} {k : Nat} (hc : c.length = a.length) (hk : k < a.length) : (splitPart a c k).length = a.length := by
  unfold splitPart
  simp
  omega
theorem split_mem {a b s : List Nat} (h : s ∈ splitF a b) : (meetF a b = none ∧ s = a) ∨ ∃ c k, meetF a b = some c ∧ k < a.length ∧ at0 a k ^^^ at0 c k ≠ 0 ∧ s = splitPart a c k := by
  unfold splitF at h
  split at h
  · rename_i q
    exact .inl ⟨q, List.mem_singleton.mp h⟩
  · rename_i c q
    obtain ⟨k, hk, rfl⟩ := List.mem_map.mp h
    obtain ⟨h1, h2⟩ := List.mem_filter.mp hk
    exact .inr ⟨c, k, q, List.mem_range.mp h1, by simpa using h2, rfl⟩
theorem meet_length {a b c : List Nat} (hl : b.length = a.length) (h : meetF a b = some c) : c.length = a.length := by
  obtain ⟨rfl, _⟩ := meet_some h
  rw [List.length_zipWith, hl]
  omega
theorem split_ok {z a b : List Nat} (ha : OkSk z a) (hb : b.length = z.length) : ∀ s ∈ splitF a b, OkSk z s := by
  intro s hs
  rcases split_mem hs with ⟨_, rfl⟩ | ⟨c, k, hc, hk, nz, rfl⟩
  · exact ha
  · have lc := meet_length (by rw [hb, ha.1]) hc
    have okc := meet_ok ha hb hc
    refine ⟨by rw [part_len lc hk, ha.1], fun i hi => ?_⟩
    rw [part_at lc hk (by rw [ha.1]; exact hi)]
    split
    · exact okc.2 i hi
    · split
      · rename_i e
        subst e
        exact ⟨Nat.pos_of_ne_zero nz, Nat.xor_lt_two_pow (ha.2 i hi).2 (okc.2 i hi).2⟩
      · exact ha.2 i hi
theorem without_step {a s : List Nat} {piece : List (List Nat)} : withoutF a (piece ++ [s]) = (withoutF a piece).flatMap fun o => splitF o s := by
  unfold withoutF
  rw [List.foldl_append]
  rfl
theorem parts_ok {z : List Nat} : ∀ (piece parts : List (List Nat)), (∀ s ∈ piece, s.length = z.length) → (∀ s ∈ parts, OkSk z s) → ∀ s ∈ piece.foldl (fun parts s => parts.flatMap fun o => splitF o s) parts, OkSk z s
  | [], parts, _, h, s, hs => h s hs
  | q :: r, parts, hp, h, s, hs => by
    refine parts_ok r _ (fun x hx => hp x (List.mem_cons_of_mem _ hx)) (fun x hx => ?_) s hs
    obtain ⟨o, ho, hx⟩ := List.mem_flatMap.mp hx
    exact split_ok (h o ho) (hp q List.mem_cons_self) x hx
theorem without_ok {z a : List Nat} {piece : List (List Nat)} (ha : OkSk z a) (hp : ∀ s ∈ piece, s.length = z.length) : ∀ s ∈ withoutF a piece, OkSk z s :=
  parts_ok piece [a] hp (fun s hs => by rw [List.mem_singleton.mp hs]; exact ha)
/-! ### before -/
theorem foldl_len {α : Type} {f : List Nat → α → List Nat} (hf : ∀ m p, (f m p).length = m.length) : ∀ (l : List α) (m : List Nat), (l.foldl f m).length = m.length
  | [], _ => rfl
  | p :: r, m => (foldl_len hf r (f m p)).trans (hf m p)
theorem freed_len {z s : List Nat} {e : Deed} : (freed z s e).length = s.length := foldl_len (fun _ _ => List.length_set ..) _ _
theorem guarded_len {m : List Nat} {e : Deed} : (guarded m e).length = m.length := foldl_len (fun _ _ => List.length_set ..) _ _
theorem back_none' {s : List Nat} : ∀ l : List (Nat × Src), l.foldl (backStep s) none = none
  | [] => rfl
  | _ :: r => back_none' r
/-- what holds of the sets stays, step by step -/
theorem back_inv {s : List Nat} {I : List Nat → Prop} : ∀ (l : List (Nat × Src)) (m m' : List Nat), I m → (∀ m c o, I m → (c, Src.copy o) ∈ l → I (m.set o (at0 m o &&& at0 s c))) → l.foldl (backStep s) (some m) = some m' → I m'
  | [], m, m', h, _, e => by
    cases e
    exact h
  | (c, .put v) :: r, m, m', h, k, e => by
    rw [List.foldl_cons] at e
    have eb : backStep s (some m) (c, .put v) = if (at0 s c).testBit v then some m else none := rfl
    rw [eb] at e
    split at e
    · exact back_inv r m m' h (fun m c o hm hc => k m c o hm (List.mem_cons_of_mem _ hc)) e
    · rw [back_none'] at e
      cases e
  | (c, .copy o) :: r, m, m', h, k, e =>
    back_inv r _ m' (k m c o h List.mem_cons_self) (fun m c o hm hc => k m c o hm (List.mem_cons_of_mem _ hc)) e
theorem freed_lt {z s : List Nat} (hs : s.length = z.length) : ∀ (l : List (Nat × Src)) (m : List Nat), m.length = z.length → (∀ i, i < z.length → at0 m i < 2 ^ at0 z i) →
    ∀ i, i < z.length → at0 (l.foldl (fun m p => m.set p.1 (2 ^ at0 z p.1 - 1)) m) i < 2 ^ at0 z i
  | [], m, hm, h, i, hi => h i hi
  | p :: r, m, hm, h, i, hi => by
    refine freed_lt hs r _ (by rw [List.length_set, hm]) (fun j hj => ?_) i hi
    rw [at0_set]
    split
    · rename_i q
      rw [q.1]
      have := Nat.two_pow_pos (at0 z j)
      omega
    · exact h j hj
theorem guarded_lt {z : List Nat} : ∀ (l : List (Nat × Nat)) (m : List Nat), m.length = z.length → (∀ i, i < z.length → at0 m i < 2 ^ at0 z i) → ∀ i, i < z.length → at0 (l.foldl (fun m p => m.set p.1 (at0 m p.1 &&& p.2)) m) i < 2 ^ at0 z i
  | [], m, hm, h, i, hi => h i hi
  | p :: r, m, hm, h, i, hi => by
    refine guarded_lt r _ (by rw [List.length_set, hm]) (fun j hj => ?_) i hi
    rw [at0_set]
    split
    · rename_i q
      rw [q.1]
      exact Nat.lt_of_le_of_lt Nat.and_le_left (h j hj)
    · exact h j hj
theorem before_some {z s b : List Nat} {e : Deed} (h : beforeF z s e = some b) : ∃ m, backed z s e = some m ∧ b = guarded m e ∧ ¬ 0 ∈ b := by
  unfold beforeF at h
  split at h
  · cases h
  · rename_i m q
    split at h
    · cases h
    · rename_i q0
      cases h
      exact ⟨m, q, rfl, q0⟩
theorem before_ok {z s b : List Nat} {e : Deed} (hs : OkSk z s) (h : beforeF z s e = some b) : OkSk z b := by
  obtain ⟨m, hm, rfl, h0⟩ := before_some h
  have hI : m.length = z.length ∧ ∀ i, i < z.length → at0 m i < 2 ^ at0 z i := by
    refine back_inv (I := fun m => m.length = z.length ∧ ∀ i, i < z.length → at0 m i < 2 ^ at0 z i) e.chg (freed z s e) m ⟨by rw [freed_len, hs.1], ?_⟩ (fun m c o h hc => ⟨by rw [List.length_set, h.1], fun i hi => ?_⟩) hm
    · exact freed_lt hs.1 e.chg s hs.1 fun i hi => (hs.2 i hi).2
    · rw [at0_set]
      split
      · rename_i q
        rw [q.1]
        exact Nat.lt_of_le_of_lt Nat.and_le_left (h.2 i hi)
      · exact h.2 i hi
  have hl : (guarded m e).length = z.length := by rw [guarded_len, hI.1]
  refine ⟨hl, fun i hi => ⟨Nat.pos_of_ne_zero fun q => h0 (mem_at0.mpr ⟨i, by rw [hl]; exact hi, q⟩), ?_⟩⟩
  exact guarded_lt e.guard m hI.1 hI.2 i hi
/-! ### so many and no more -/
theorem few_of_lt : ∀ (n : Nat) (l : List Nat), l.Nodup → (∀ x ∈ l, x < n) → l.length ≤ n
  | 0, [], _, _ => Nat.le_refl _
  | 0, x :: r, _, h => absurd (h x List.mem_cons_self) (Nat.not_lt_zero _)
  | n + 1, l, nd, h => by
    by_cases hn : n ∈ l
    · have q := few_of_lt n (l.erase n) (nd.erase n) fun x hx => by
        have q1 := (nd.mem_erase_iff).mp hx
        have q2 := h x q1.2
        have : x ≠ n := q1.1
        omega
      rw [List.length_erase_of_mem hn] at q
      omega
    · have q := few_of_lt n l nd fun x hx => by
        have q2 := h x hx
        have : x ≠ n := fun e => hn (e ▸ hx)
        omega
      omega
/-- digits -/
def codeN (B : Nat) (l : List Nat) : Nat := l.foldl (fun p x => p * B + x) 0
theorem code_lt {B : Nat} : ∀ (l : List Nat) (p b : Nat), (∀ x ∈ l, x < B) → p < b → l.foldl (fun p x => p * B + x) p < b * B ^ l.length
  | [], p, b, _, hp => by simpa using hp
  | x :: r, p, b, h, hp => by
    have hx := h x List.mem_cons_self
    have h1 : p * B + x < b * B := by
      have : (p + 1) * B ≤ b * B := Nat.mul_le_mul_right B hp
      rw [Nat.add_mul, Nat.one_mul] at this
      omega
    have h2 := code_lt r (p * B + x) (b * B) (fun y hy => h y (List.mem_cons_of_mem _ hy)) h1
    rw [List.foldl_cons, List.length_cons, Nat.pow_succ, Nat.mul_comm (B ^ r.length) B, ← Nat.mul_assoc]
    exact h2
theorem code_inj {B : Nat} : ∀ (l k : List Nat) (p q : Nat), l.length = k.length → (∀ x ∈ l, x < B) → (∀ x ∈ k, x < B) → l.foldl (fun p x => p * B + x) p = k.foldl (fun p x => p * B + x) q → p = q ∧ l = k
  | [], [], p, q, _, _, _, e => ⟨e, rfl⟩
  | x :: r, y :: t, p, q, hl, h1, h2, e => by
    obtain ⟨e1, e2⟩ := code_inj r t _ _ (by simpa using hl) (fun z hz => h1 z (List.mem_cons_of_mem _ hz)) (fun z hz => h2 z (List.mem_cons_of_mem _ hz)) e
    have e1 : p * B + x = q * B + y := e1
    have hx := h1 x List.mem_cons_self
    have hy := h2 y List.mem_cons_self
    have a1 : (p * B + x) / B = p := by rw [Nat.mul_comm, Nat.mul_add_div (by omega), Nat.div_eq_of_lt hx, Nat.add_zero]
    have a2 : (q * B + y) / B = q := by rw [Nat.mul_comm, Nat.mul_add_div (by omega), Nat.div_eq_of_lt hy, Nat.add_zero]
    have e3 : p = q := by rw [← a1, ← a2, e1]
    subst e3
    have e4 : x = y := by omega
    exact ⟨rfl, by rw [e4, e2]⟩
theorem few_lists {B n : Nat} (l : List (List Nat)) (nd : l.Nodup) (h : ∀ s ∈ l, s.length = n ∧ ∀ x ∈ s, x < B) : l.length ≤ B ^ n := by
  have q := few_of_lt (B ^ n) (l.map (codeN B)) (by
    refine List.pairwise_map.mpr (List.Pairwise.imp_of_mem (fun {a b} ha hb ne e => ne ?_) nd)
    exact (code_inj a b 0 0 (by rw [(h a ha).1, (h b hb).1]) (h a ha).2 (h b hb).2 e).2) (fun x hx => by
    obtain ⟨s, hs, rfl⟩ := List.mem_map.mp hx
    have q := code_lt s 0 1 (h s hs).2 (by decide)
    rw [(h s hs).1, Nat.one_mul] at q
    exact q)
  rw [List.length_map] at q
  exact q
/-- a search stays fit -/
structure StOk (z : List Nat) (t : SS) : Prop where
  ok : ∀ o ∈ t.sks, OkSk z o
  nd : t.sks.Nodup
  len : t.org.length = t.sks.length
theorem sk_lt {z s : List Nat} (hz : ∀ i, i < z.length → at0 z i ≤ 3) (h : OkSk z s) : ∀ x ∈ s, x < 8 := fun x hx => by
  obtain ⟨i, hi, rfl⟩ := mem_at0.mp hx
  rw [h.1] at hi
  have q := (h.2 i hi).2
  have q2 : 2 ^ at0 z i ≤ 2 ^ 3 := Nat.pow_le_pow_right (by decide) (hz i hi)
  omega
theorem StOk.few {m : Mach} {t : SS} (hm : OkM m) (h : StOk m.sizes t) : t.sks.length ≤ 4096 := by
  have q := few_lists (B := 8) (n := m.sizes.length) t.sks h.nd fun s hs => ⟨(h.ok s hs).1, sk_lt (fun i hi => (hm.size i hi).2) (h.ok s hs)⟩
  have q2 : 8 ^ m.sizes.length ≤ 8 ^ 4 := Nat.pow_le_pow_right (by decide) hm.few
  have q3 : 8 ^ 4 = 4096 := rfl
  omega
theorem inc_self {s : List Nat} : incF s s = true := by
  unfold incF
  rw [List.all_eq_true]
  intro p hp
  obtain ⟨i, hi⟩ := List.mem_iff_getElem?.mp hp
  rw [List.getElem?_zip_eq_some] at hi
  have e : p.1 = p.2 := Option.some.inj (hi.1.symm.trans hi.2)
  rw [e, Nat.and_self, beq_self_eq_true]
theorem StOk.none {z : List Nat} : StOk z SS.none := ⟨fun o h => (nomatch h), List.nodup_nil, rfl⟩
theorem place_ok {z first s : List Nat} {t : SS} {o : Option (Nat × Nat)} (h : StOk z t) (hs : OkSk z s) : StOk z (placeF first t s o).1 := by
  unfold placeF
  split
  · exact h
  · rename_i q
    rw [List.findIdx?_eq_none_iff] at q
    refine ⟨fun x hx => ?_, ?_, ?_⟩
    · rcases List.mem_append.mp hx with hx | hx
      · exact h.ok x hx
      · rw [List.mem_singleton.mp hx]
        exact hs
    · refine List.nodup_append.mpr ⟨h.nd, List.nodup_cons.mpr ⟨List.not_mem_nil, List.nodup_nil⟩, fun a ha b hb e => ?_⟩
      rw [List.mem_singleton.mp hb] at e
      subst e
      have := q a ha
      rw [inc_self] at this
      cases this
    · show (t.org ++ [o]).length = (t.sks ++ [s]).length
      rw [List.length_append, List.length_append, h.len]
      rfl
theorem placeAll_ok {z first : List Nat} {o : Option (Nat × Nat)} : ∀ (l : List (List Nat)) (t : SS), StOk z t → (∀ s ∈ l, OkSk z s) → StOk z (placeAll first o t l).1
  | [], t, h, _ => h
  | s :: r, t, h, k => placeAll_ok r _ (place_ok h (k s List.mem_cons_self)) fun x hx => k x (List.mem_cons_of_mem _ hx)
theorem places_ok {z first s : List Nat} {piece : List (List Nat)} {t : SS} {o : Option (Nat × Nat)} (h : StOk z t) (hs : OkSk z s) (hp : ∀ q ∈ piece, q.length = z.length) : StOk z (placesF first piece t s o).1 :=
  placeAll_ok _ t h (without_ok hs hp)
theorem placeAll_snoc {first : List Nat} {o : Option (Nat × Nat)} : ∀ (l : List (List Nat)) (t : SS) (s : List Nat),
    placeAll first o t (l ++ [s]) = ((placeF first (placeAll first o t l).1 s o).1, (placeAll first o t l).2 ++ [(placeF first (placeAll first o t l).1 s o).2])
  | [], t, s => rfl
  | x :: r, t, s => by
    show (((placeAll first o (placeF first t x o).1 (r ++ [s])).1, (placeF first t x o).2 :: (placeAll first o (placeF first t x o).1 (r ++ [s])).2) : SS × List Nat) = _
    rw [placeAll_snoc r]
    rfl
theorem placeAll_len {first : List Nat} {o : Option (Nat × Nat)} : ∀ (l : List (List Nat)) (t : SS), (placeAll first o t l).2.length = l.length
  | [], t => rfl
  | x :: r, t => congrArg (· + 1) (placeAll_len r _)
/-! ### masks side by side -/
theorem pack_and {a b p q : Nat} (ha : a < 65536) (hb : b < 65536) : ((p <<< 16) ||| a) &&& ((q <<< 16) ||| b) = ((p &&& q) <<< 16) ||| (a &&& b) := by
  refine Nat.eq_of_testBit_eq fun i => ?_
  have hi : ∀ c, c < 65536 → 16 ≤ i → c.testBit i = false := fun c hc h => Nat.testBit_lt_two_pow (Nat.lt_of_lt_of_le hc (by
    have : 2 ^ 16 ≤ 2 ^ i := Nat.pow_le_pow_right (by decide) h
    exact this))
  rw [Nat.testBit_and, Nat.testBit_or, Nat.testBit_or, Nat.testBit_or, Nat.testBit_shiftLeft, Nat.testBit_shiftLeft, Nat.testBit_shiftLeft, Nat.testBit_and, Nat.testBit_and]
  by_cases h : 16 ≤ i
  · rw [hi a ha h, hi b hb h]
    simp [h]
  · simp [h]
theorem pack_fold_and : ∀ (s o : List Nat) (p q : Nat), s.length = o.length → (∀ x ∈ s, x < 65536) → (∀ x ∈ o, x < 65536) →
    s.foldl (fun p m => (p <<< 16) ||| m) p &&& o.foldl (fun p m => (p <<< 16) ||| m) q = (List.zipWith (· &&& ·) s o).foldl (fun p m => (p <<< 16) ||| m) (p &&& q)
  | [], [], p, q, _, _, _ => rfl
  | a :: s, b :: o, p, q, hl, h1, h2 => by
    rw [List.foldl_cons, List.foldl_cons, pack_fold_and s o _ _ (by simpa using hl) (fun x hx => h1 x (List.mem_cons_of_mem _ hx)) fun x hx => h2 x (List.mem_cons_of_mem _ hx),
      pack_and (h1 a List.mem_cons_self) (h2 b List.mem_cons_self)]
    rfl
theorem pack_code : ∀ (s : List Nat) (p : Nat), (∀ x ∈ s, x < 65536) → s.foldl (fun p m => (p <<< 16) ||| m) p = s.foldl (fun p x => p * 65536 + x) p
  | [], p, _ => rfl
  | a :: s, p, h => by
    have ha := h a List.mem_cons_self
    rw [List.foldl_cons, List.foldl_cons, pack_code s _ fun x hx => h x (List.mem_cons_of_mem _ hx), ← Nat.shiftLeft_add_eq_or_of_lt (by exact ha : a < 2 ^ 16), Nat.shiftLeft_eq]
theorem pack_inc {s o : List Nat} (hl : s.length = o.length) (h1 : ∀ x ∈ s, x < 65536) (h2 : ∀ x ∈ o, x < 65536) : (packF s &&& packF o == packF s) = incF s o := by
  have e : packF s &&& packF o = packF (List.zipWith (· &&& ·) s o) := pack_fold_and s o 0 0 hl h1 h2
  have h3 : ∀ x ∈ List.zipWith (· &&& ·) s o, x < 65536 := fun x hx => by
    obtain ⟨i, hi, rfl⟩ := mem_at0.mp hx
    rw [List.length_zipWith] at hi
    rw [at0_zw (by omega) (by omega)]
    exact Nat.lt_of_le_of_lt Nat.and_le_left (h1 _ (mem_at0.mpr ⟨i, by omega, rfl⟩))
  rw [Bool.eq_iff_iff, beq_iff_eq, e]
  unfold incF
  rw [List.all_eq_true]
  constructor
  · intro q p hp
    have q2 : List.zipWith (· &&& ·) s o = s := by
      unfold packF at q
      rw [pack_code _ _ h3, pack_code _ _ h1] at q
      exact (code_inj _ _ 0 0 (by rw [List.length_zipWith]; omega) h3 h1 q).2
    obtain ⟨i, hi⟩ := List.mem_iff_getElem?.mp hp
    rw [List.getElem?_zip_eq_some] at hi
    have l1 := (List.getElem?_eq_some_iff.mp hi.1).1
    have l2 := (List.getElem?_eq_some_iff.mp hi.2).1
    have q3 : at0 (List.zipWith (· &&& ·) s o) i = at0 s i := congrArg (fun l => at0 l i) q2
    rw [at0_zw l1 l2, at0_of hi.1, at0_of hi.2] at q3
    rw [q3, beq_self_eq_true]
  · intro q
    have q2 : List.zipWith (· &&& ·) s o = s := by
      refine at0_ext (by rw [List.length_zipWith]; omega) fun i hi => ?_
      rw [List.length_zipWith] at hi
      rw [at0_zw (by omega) (by omega)]
      have := q (at0 s i, at0 o i) (List.mem_iff_getElem?.mpr ⟨i, List.getElem?_zip_eq_some.mpr ⟨at0_some (by omega), at0_some (by omega)⟩⟩)
      simpa using this
    rw [q2]
/-! ### rows -/
theorem rowGo_none {m : Mach} {piece : List (List Nat)} {number k : Nat} {t : SS} {e : Deed} {r : List Deed} (h : beforeF m.sizes (t.sks.getD number []) e = none) :
    rowGo m piece number t k (e :: r) = ((rowGo m piece number t (k + 1) r).1, [] :: (rowGo m piece number t (k + 1) r).2) := by
  rw [rowGo, h]
theorem rowGo_some {m : Mach} {piece : List (List Nat)} {number k : Nat} {t : SS} {e : Deed} {r : List Deed} {b : List Nat} (h : beforeF m.sizes (t.sks.getD number []) e = some b) :
    rowGo m piece number t k (e :: r) = ((rowGo m piece number (placesF m.first piece t b (some (k, number))).1 (k + 1) r).1, (placesF m.first piece t b (some (k, number))).2 :: (rowGo m piece number (placesF m.first piece t b (some (k, number))).1 (k + 1) r).2) := by
  rw [rowGo, h]
theorem rowGo_snoc {m : Mach} {piece : List (List Nat)} {number : Nat} : ∀ (l : List Deed) (t : SS) (k : Nat) (e : Deed), rowGo m piece number t k (l ++ [e]) =
    ((rowGo m piece number (rowGo m piece number t k l).1 (k + l.length) [e]).1, (rowGo m piece number t k l).2 ++ (rowGo m piece number (rowGo m piece number t k l).1 (k + l.length) [e]).2)
  | [], t, k, e => rfl
  | x :: r, t, k, e => by
    rw [List.cons_append, List.length_cons, show k + (r.length + 1) = k + 1 + r.length by omega]
    cases h : beforeF m.sizes (t.sks.getD number []) x with
    | none => rw [rowGo_none h, rowGo_none h, rowGo_snoc r]; rfl
    | some b => rw [rowGo_some h, rowGo_some h, rowGo_snoc r]; rfl
theorem rowGo_ok {m : Mach} {piece : List (List Nat)} {number : Nat} (hp : ∀ q ∈ piece, q.length = m.sizes.length) : ∀ (l : List Deed) (t : SS) (k : Nat), StOk m.sizes t → OkSk m.sizes (t.sks.getD number []) → number < t.sks.length →
    StOk m.sizes (rowGo m piece number t k l).1 ∧ (∃ r, (rowGo m piece number t k l).1.sks = t.sks ++ r)
  | [], t, k, h, _, _ => ⟨h, [], (List.append_nil _).symm⟩
  | e :: r, t, k, h, hn, hl => by
    unfold rowGo
    split
    · exact rowGo_ok hp r t (k + 1) h hn hl
    · rename_i b hb
      have hb2 := before_ok hn hb
      have h2 := places_ok (first := m.first) (o := some (k, number)) h hb2 hp
      obtain ⟨r1, e1⟩ : ∃ r1, (placesF m.first piece t b (some (k, number))).1.sks = t.sks ++ r1 := by
        unfold placesF
        generalize withoutF b piece = l2
        clear hb2 h2 hb hn hl h
        induction l2 generalizing t with
        | nil => exact ⟨[], (List.append_nil _).symm⟩
        | cons s r ih =>
          obtain ⟨r2, e2⟩ := ih (placeF m.first t s (some (k, number))).1
          have : ∃ r3, (placeF m.first t s (some (k, number))).1.sks = t.sks ++ r3 := by
            unfold placeF
            split
            · exact ⟨[], (List.append_nil _).symm⟩
            · exact ⟨[s], rfl⟩
          obtain ⟨r3, e3⟩ := this
          exact ⟨r3 ++ r2, by show (placeAll m.first _ (placeF m.first t s _).1 r).1.sks = _; rw [e2, e3, List.append_assoc]⟩
      have e2 : (placesF m.first piece t b (some (k, number))).1.sks.getD number [] = t.sks.getD number [] := by
        rw [e1, List.getD_eq_getElem?_getD, List.getD_eq_getElem?_getD, List.getElem?_append_left hl]
      obtain ⟨a, r2, e3⟩ := rowGo_ok hp r _ (k + 1) h2 (by rw [e2]; exact hn) (by rw [e1, List.length_append]; omega)
      exact ⟨a, r1 ++ r2, by show (rowGo m piece number _ (k + 1) r).1.sks = _; rw [e3, e1, List.append_assoc]⟩
theorem rowGo_few {m : Mach} {piece : List (List Nat)} {number : Nat} : ∀ (l : List Deed) (t : SS) (k : Nat), (rowGo m piece number t k l).2.length = l.length
  | [], t, k => rfl
  | e :: r, t, k => by
    unfold rowGo
    split
    · exact congrArg (· + 1) (rowGo_few r _ _)
    · exact congrArg (· + 1) (rowGo_few r _ _)
end M40

set_option Elab.async false
set_option linter.all false
set_option maxRecDepth 100000
set_option maxHeartbeats 4000000
/-! A search: its list and its attributes; walks: Search.__init__, place, places, row. -/
namespace R40
open PySem PySem.Spec PyProof.Rows L2 M40
/-- the world that knows nothing -/
abbrev Wd.nil : Wd := ⟨fun _ => none, fun _ => none, fun _ _ h => h, fun _ _ h => h⟩
theorem nil_le {B : List Addr} {w : Wd} : LeB B Wd.nil w := ⟨fun _ _ h => (nomatch h), fun _ _ _ h => (nomatch h), fun _ _ _ h => (nomatch h)⟩
/-- an effect: what an expression gives from here, the worlds behind it told by R -/
def X (te : TE) (σ : L2.St) (w : Wd) (R : V → Wd → Prop) : Prop := ∀ Q : VK, (∀ v w2, R v w2 → Q v w2.H) → te σ w.H Q
section
variable {Γ : Env} {w : Wd} {s t u : Slot} {te ta tb tc tl : TE} {tt tu : TT} {K : PySem.W.Frag} {α β : Type} {R : α → Slot} {S : β → Slot} {xs : List α} {ys : List β} {D : Ends} {σ : L2.St} {ts ts1 ts2 tz : TS}
theorem E.x (o : EnvOk w.G σ Γ) (h : E te Γ w s) : X te σ w (fun v w2 => Le w w2 ∧ s.P w2.G v) := fun Q q => h σ w .refl o Q fun v w2 l p => q v w2 ⟨l, p⟩
theorem X.imp {R R' : V → Wd → Prop} (h : X te σ w R) (k : ∀ v w2, R v w2 → R' v w2) : X te σ w R' := fun Q q => h Q fun v w2 p => q v w2 (k v w2 p)
theorem x_if {b : Bool} {R : V → Wd → Prop} (o : EnvOk w.G σ Γ) (h : ET tt Γ w b) (h1 : b = true → ∀ w2 : Wd, Le w w2 → X ta σ w2 R) (h2 : b = false → ∀ w2 : Wd, Le w w2 → X tb σ w2 R) : X (tIf tt ta tb) σ w R := fun Q q =>
  h σ w .refl o _ fun w2 l => by
    cases b with
    | true => exact iteT (h1 rfl w2 l Q q)
    | false => exact iteF (h2 rfl w2 l Q q)
theorem q_appX {l : Addr} {x : α} {Post : Wd → Wd → Prop} (o : EnvOk w.G σ Γ) (ow : Own .nil l R xs w) (hz : xs.length ≤ 1000000) (ha : E ta Γ w (sRef l))
    (h : ∀ w1 : Wd, Le w w1 → EnvOk w1.G σ Γ → X te σ w1 (fun v w2 => Post w1 w2 ∧ (R x).P w2.G v ∧ Own .nil l R xs w2))
    (k : ∀ w1 w2 w3 : Wd, Le w w1 → Post w1 w2 → LeB [l] w2 w3 → Own .nil l R (xs ++ [x]) w3 → D.nx σ w3.H) : tDrop (tBM K "list" rAppend ta (tCons te tNil)) D σ w.H :=
  ha σ w .refl o _ fun v w2 l2 p => by
    cases p
    obtain ⟨vs, a, r⟩ := (ow.up l2).at_
    refine ⟨Or.inl ⟨rfl, _, SqL.of a⟩, h w2 l2 (o.up l2) _ fun z w3 ⟨post, pz, ow3⟩ => ?_⟩
    obtain ⟨vs3, a3, r3⟩ := ow3.at_
    refine ⟨l, vs3, z, rfl, rfl, a3, Nat.lt_of_le_of_lt (by rw [r3.len]; exact hz) (by decide), ?_⟩
    have lb : LeB [l] w3 (w3.put l (.lst (vs3 ++ [z])) ow3.g) := Wd.leB_put (List.mem_singleton.mpr rfl)
    exact k w2 w3 (w3.put l (.lst (vs3 ++ [z])) ow3.g) l2 post lb ⟨nil_le, rfl, ow3.g, vs3 ++ [z], upd_same, r3.snoc pz⟩
/-- while: x tells the turn, μ x how many are to come at most -/
theorem q_while {ι : Type} (μ : ι → Nat) (Γl : ι → Env) (P : ι → Wd → Prop) (c : ι → Bool) (x0 : ι) (o : EnvOk w.G σ (Γl x0)) (h0 : P x0 w) (hm : ∀ x w1 w2, P x w1 → Le w1 w2 → P x w2) (ht : ∀ x w1, P x w1 → ET tt (Γl x) w1 (c x))
    (hb : ∀ (x : ι) (σ' : L2.St) (w1 : Wd), c x = true → EnvOk w1.G σ' (Γl x) → P x w1 → ∀ N : L2.St → Hp → Prop,
      (∀ (y : ι) (σ2 : L2.St) (w2 : Wd), μ y < μ x → EnvOk w2.G σ2 (Γl y) → P y w2 → N σ2 w2.H) → ts { D with nx := N, ct := N, bk := tz D } σ' w1.H)
    (hd : ∀ (x : ι) (σ' : L2.St) (w1 : Wd), c x = false → EnvOk w1.G σ' (Γl x) → P x w1 → tz D σ' w1.H) : tSeq (tWhile tt ts) tz D σ w.H := by
  refine ⟨fun m σ' H' => ∃ (x : ι) (w' : Wd), H' = w'.H ∧ m = μ x ∧ EnvOk w'.G σ' (Γl x) ∧ P x w', ⟨_, x0, w, rfl, rfl, o, h0⟩, ?_⟩
  rintro m σ' H' ⟨x, w', rfl, rfl, o', p'⟩
  refine ht x w' p' σ' w' .refl o' _ fun w2 l2 => ?_
  cases e : c x with
  | false => exact iteF (hd x σ' w2 e (o'.up l2) (hm x _ _ p' l2))
  | true => exact iteT ⟨fun σ2 H2 => ∃ (y : ι) (w3 : Wd), H2 = w3.H ∧ μ y < μ x ∧ EnvOk w3.G σ2 (Γl y) ∧ P y w3, fun σ2 H2 ⟨y, w3, e3, lt, o3, p3⟩ => ⟨μ y, lt, y, w3, e3, rfl, o3, p3⟩,
      hb x σ' w2 e (o'.up l2) (hm x _ _ p' l2) _ fun y σ2 w3 lt o3 p3 => ⟨y, w3, rfl, lt, o3, p3⟩⟩
/-! ### an instance of one's own: its attributes -/
theorem e_fldOw {w0 : Wd} {C p dx : Addr} {f : Str} {fs : List (Str × Slot)} (ow : OwnI w0 p C dx fs w) (hc : Cls K C) (hn : NoAttr K C f) (hl : fs.lookup f = some s) (ha : E ta Γ w (sRef p)) : E (tFld K ta f) Γ w s := fun σ w1 l o Q q =>
  ha σ w1 l o _ fun v w2 l2 pv => by
    cases pv
    obtain ⟨vs, a, r⟩ := (ow.up (l.trans l2)).at_
    obtain ⟨v, hv, pv⟩ := r.look hl
    exact ⟨p, C, dx, vs, v, rfl, a, hc, hn, hv, q v w2 l2 pv⟩
theorem FlR.upd {G : Hp} {f : Str} {y : V} {s t : Slot} {vs : List (Str × V)} {fs : List (Str × Slot)} (h : FlR G vs (fs ++ [(f, t)])) (hf : ¬ f ∈ fs.map (·.1)) (hy : s.P G y) : FlR G (putF f y vs) (fs ++ [(f, s)]) := by
  induction fs generalizing vs with
  | nil =>
    cases h with
    | cons a r =>
      cases r
      show FlR G (if f = f then _ else _) _
      rw [if_pos rfl]
      exact .cons hy .nil
  | cons p r ih =>
    obtain ⟨g, u⟩ := p
    have ne : ¬ g = f := fun e => hf (by rw [← e]; exact List.mem_cons_self)
    cases h with
    | @cons _ v _ vs' _ a r' =>
      show FlR G (if g = f then (g, y) :: vs' else (g, v) :: putF f y vs') _
      rw [if_neg ne]
      exact .cons a (ih r' fun m => hf (List.mem_cons_of_mem _ m))
/-- self.f = e, f the last attribute, anew -/
theorem s_fldU {w0 : Wd} {C p dx : Addr} {f : Str} {fs : List (Str × Slot)} (o : EnvOk w.G σ Γ) (ow : OwnI w0 p C dx (fs ++ [(f, t)]) w) (hc : Cls K C) (hn : NoAttr K C f) (hf : ¬ f ∈ fs.map (·.1)) (hz : fs.length < 900) (ht : E te Γ w s) (ha : E ta Γ w (sRef p))
    (k : ∀ w2 : Wd, LeB [p] w w2 → OwnI w0 p C dx (fs ++ [(f, s)]) w2 → EnvOk w2.G σ Γ → D.nx σ w2.H) : sFld K ta te f D σ w.H :=
  ht σ w .refl o _ fun y w1 l1 py => ha σ w1 l1 (o.up l1) _ fun v w2 l2 pv => by
    cases pv
    have ow2 := ow.up (l1.trans l2)
    obtain ⟨vs, a, r⟩ := ow2.at_
    refine ⟨p, C, dx, vs, rfl, a, hc, hn, by rw [r.length, List.length_append]; show fs.length + 1 < 1000; omega, ?_⟩
    have lb : LeB [p] w2 (w2.put p (.ins C dx (putF f y vs)) ow2.g) := Wd.leB_put (List.mem_singleton.mpr rfl)
    exact k (w2.put p (.ins C dx (putF f y vs)) ow2.g) ((LeB.up (l1.trans l2)).trans lb) ⟨ow2.le.trans lb, ow2.g, putF f y vs, upd_same, r.upd hf (show s.P w2.G y from Slot.up l2 py)⟩ (((o.up l1).up l2).up lb)
theorem s_fldB {w0 : Wd} {C p dx : Addr} {f : Str} {fs : List (Str × Slot)} (o : EnvOk w.G σ Γ) (ow : OwnI w0 p C dx fs w) (hc : Cls K C) (hn : NoAttr K C f) (hf : ¬ f ∈ fs.map (·.1)) (hz : fs.length < 1000) (ht : E te Γ w s) (ha : E ta Γ w (sRef p))
    (k : ∀ w2 : Wd, LeB [p] w w2 → OwnI w0 p C dx (fs ++ [(f, s)]) w2 → EnvOk w2.G σ Γ → D.nx σ w2.H) : sFld K ta te f D σ w.H :=
  ht σ w .refl o _ fun y w1 l1 py => ha σ w1 l1 (o.up l1) _ fun v w2 l2 pv => by
    cases pv
    have ow2 := ow.up (l1.trans l2)
    obtain ⟨vs, a, r⟩ := ow2.at_
    refine ⟨p, C, dx, vs, rfl, a, hc, hn, by rw [r.length]; exact hz, ?_⟩
    have lb : LeB [p] w2 (w2.put p (.ins C dx (putF f y vs)) ow2.g) := Wd.leB_put (List.mem_singleton.mpr rfl)
    exact k (w2.put p (.ins C dx (putF f y vs)) ow2.g) ((LeB.up (l1.trans l2)).trans lb) ⟨ow2.le.trans lb, ow2.g, putF f y vs, upd_same, r.put hf (show s.P w2.G y from Slot.up l2 py)⟩ (((o.up l1).up l2).up lb)
theorem LeB.free {B : List Addr} {w1 w2 : Wd} (l : LeB B w1 w2) {a : Addr} (h : w2.H a = none) (hB : a ∉ B) : w1.H a = none := by
  cases e : w1.H a with
  | none => rfl
  | some o =>
    rw [l.h a o hB e] at h
    cases h
/-- self.f = a new list -/
theorem q_fldL {w0 : Wd} {C p dx : Addr} {f : Str} {fs : List (Str × Slot)} (o : EnvOk w.G σ Γ) (ow : OwnI w0 p C dx fs w) (hc : Cls K C) (hn : NoAttr K C f) (hf : ¬ f ∈ fs.map (·.1)) (hz : fs.length < 1000) (ht : EL te Γ w R xs) (ha : E ta Γ w (sRef p))
    (k : ∀ (w2 : Wd) (l : Addr), LeB [p] w w2 → OwnI w0 p C dx (fs ++ [(f, sRef l)]) w2 → Own .nil l R xs w2 → w.H l = none → l ≠ p → EnvOk w2.G σ Γ → tz D σ w2.H) : tSeq (sFld K ta te f) tz D σ w.H :=
  ht σ w .refl o _ fun l xs0 w1 l1 n1 g1 h1 r1 => ha σ w1 l1 (o.up l1) _ fun v w2 l2 pv => by
    cases pv
    have ow2 := ow.up (l1.trans l2)
    obtain ⟨vs, a, r⟩ := ow2.at_
    have ne : l ≠ p := fun e => by
      obtain ⟨_, a0, _⟩ := ow.at_
      rw [e] at n1
      rw [n1] at a0
      cases a0
    refine ⟨p, C, dx, vs, rfl, a, hc, hn, by rw [r.length]; exact hz, ?_⟩
    have lb : LeB [p] w2 (w2.put p (.ins C dx (putF f (.ref l) vs)) ow2.g) := Wd.leB_put (List.mem_singleton.mpr rfl)
    have own : Own .nil l R xs w2 := ⟨nil_le, rfl, l2.own l _ List.not_mem_nil h1 g1, xs0, l2.h l _ List.not_mem_nil h1, r1.mono l2.g⟩
    exact k (w2.put p (.ins C dx (putF f (.ref l) vs)) ow2.g) l ((LeB.up (l1.trans l2)).trans lb) ⟨ow2.le.trans lb, ow2.g, putF f (.ref l) vs, upd_same, r.put hf rfl⟩
      (own.upB lb (fun _ _ => rfl) (fun m => ne (List.mem_singleton.mp m))) n1 ne (((o.up l1).up l2).up lb)
end
/-- a def that keeps a promise told outright -/
theorem okF {P : Program} {w : World} {K : PySem.W.Frag} {mg : Str → Option Value} {base : Heap} {x qual : Str} {params : Arguments} {body : List Stmt} {scope : Scope} {f : Addr} {fd : FuncData} {N ps : List Str} {k : Nat} {sp : Sp}
    (F : FunD K x qual params body scope [] [] f fd) (S : FnScope N ps scope) (hl : ∀ vs H Q E, sp vs H Q E → vs.length = ps.length)
    (hb : ∀ (cdv : Value) (A : Around) (outer : List PySem.Env) (s : Shared) (H : Hp) (E : XK), Room k (A.deeper (envOfC qual scope s.heap.objs.size f cdv)) →
      ∃ t, PSs (cxOf CX0 P w K mg base N qual scope f cdv A outer s H E).nox body t ∧
        ∀ (vs : List V) (H : Hp) (Q : VK), sp vs H Q E → t { nx := fun _ H' => Q .non H', rt := Q } (L2.start N vs) H) : FnOk P w K mg base CX0 (k + 1) f fd ps sp := by
  refine F.ok S hl (fun cdv A outer s H vs Q E hr h => ?_)
  obtain ⟨t, ht, q⟩ := hb cdv A outer s H E hr
  exact ⟨t, ht.nox, q vs H Q h⟩
/-! ### a search -/
abbrev sOrg (o : Option (Nat × Nat)) : Slot := sOpt sPr o
def foundI : Option Nat → Int
  | none => -1
  | some k => (k : Int)
structure SB where
  p : Addr
  dx : Addr
  lp : Addr
  ls : Addr
  lo : Addr
abbrev SB.B (b : SB) : List Addr := [b.p, b.lp, b.ls, b.lo]
abbrev sFs0 (K : PySem.W.Frag) (m : Mach) (piece : List (List Nat)) (b : SB) : List (Str × Slot) := [("_machine", sMach K m), ("_piece", sPiece piece), ("_packed", sRef b.lp), ("sketches", sRef b.ls), ("origins", sRef b.lo)]
abbrev sFs (K : PySem.W.Frag) (m : Mach) (piece : List (List Nat)) (b : SB) (f : Int) : List (Str × Slot) := sFs0 K m piece b ++ [(("found" : Str), sInt f)]
structure SearchAt (K : PySem.W.Frag) (m : Mach) (piece : List (List Nat)) (b : SB) (t : SS) (w : Wd) : Prop where
  ins : OwnI .nil b.p (He.ga K "Search") b.dx (sFs K m piece b (foundI t.found)) w
  pk : Own .nil b.lp (fun n : Nat => sNat n) (t.sks.map packF) w
  sk : Own .nil b.ls sNs t.sks w
  og : Own .nil b.lo sOrg t.org w
  nd : b.B.Nodup
theorem OwnI.upB {w0 w1 w2 : Wd} {C p dx : Addr} {fs : List (Str × Slot)} {Bs : List Addr} (h : OwnI .nil p C dx fs w1) (k : LeB Bs w1 w2) (hl : p ∉ Bs) : OwnI .nil p C dx fs w2 := by
  obtain ⟨vs, a, r⟩ := h.at_
  exact ⟨nil_le, k.own p _ hl a h.g, vs, k.h p _ hl a, r.mono k.g⟩
theorem Own.nilB {α : Type} {R : α → Slot} {xs : List α} {w1 w2 : Wd} {l : Addr} {Bs : List Addr} (h : Own .nil l R xs w1) (k : LeB Bs w1 w2) (hl : l ∉ Bs) : Own .nil l R xs w2 := h.upB k (fun _ _ => rfl) hl
theorem SearchAt.upB {K : PySem.W.Frag} {m : Mach} {piece : List (List Nat)} {b : SB} {t : SS} {w1 w2 : Wd} {Bs : List Addr} (h : SearchAt K m piece b t w1) (k : LeB Bs w1 w2) (hB : ∀ a ∈ b.B, a ∉ Bs) : SearchAt K m piece b t w2 :=
  ⟨h.ins.upB (w0 := w1) k (hB _ (by simp)), h.pk.nilB k (hB _ (by simp)), h.sk.nilB k (hB _ (by simp)), h.og.nilB k (hB _ (by simp)), h.nd⟩
theorem SearchAt.up {K : PySem.W.Frag} {m : Mach} {piece : List (List Nat)} {b : SB} {t : SS} {w1 w2 : Wd} (h : SearchAt K m piece b t w1) (k : Le w1 w2) : SearchAt K m piece b t w2 := h.upB k fun _ _ => List.not_mem_nil
theorem SearchAt.has {K : PySem.W.Frag} {m : Mach} {piece : List (List Nat)} {b : SB} {t : SS} {w : Wd} (h : SearchAt K m piece b t w) : ∀ a ∈ b.B, ∃ o, w.H a = some o := by
  intro a ha
  have ha : a = b.p ∨ a = b.lp ∨ a = b.ls ∨ a = b.lo := by simpa using ha
  rcases ha with rfl | rfl | rfl | rfl
  · obtain ⟨vs, e, _⟩ := h.ins.at_; exact ⟨_, e⟩
  · obtain ⟨vs, e, _⟩ := h.pk.at_; exact ⟨_, e⟩
  · obtain ⟨vs, e, _⟩ := h.sk.at_; exact ⟨_, e⟩
  · obtain ⟨vs, e, _⟩ := h.og.at_; exact ⟨_, e⟩
theorem SearchAt.new {K : PySem.W.Frag} {m : Mach} {piece : List (List Nat)} {b : SB} {t : SS} {w : Wd} (h : SearchAt K m piece b t w) {l : Addr} (n : w.H l = none) : ∀ a ∈ b.B, a ∉ [l] := fun a ha e => by
  obtain ⟨o, q⟩ := h.has a ha
  rw [List.mem_singleton.mp e, n] at q
  cases q
/-- a promise of a method that changes its search -/
def spS (K : PySem.W.Frag) {ι : Type} (pre : ι → Mach → List (List Nat) → SS → Prop) (as : ι → List Slot) (st : ι → Mach → List (List Nat) → SS → SS) (Φ : ι → Mach → List (List Nat) → SS → Slot) : Sp := fun vs H Q _ =>
  ∃ (x : ι) (m : Mach) (piece : List (List Nat)) (b : SB) (t : SS) (w : Wd) (us : List V), w.H = H ∧ vs = .ref b.p :: us ∧ pre x m piece t ∧ SearchAt K m piece b t w ∧ Args w.G us (as x) ∧
    ∀ v w2, LeB b.B w w2 → SearchAt K m piece b (st x m piece t) w2 → (Φ x m piece t).P w2.G v → Q v w2.H
section
variable {Γ : Env} {w : Wd} {ta : TE} {K : PySem.W.Frag} {σ : L2.St}
theorem x_meth {ι : Type} {m : Mach} {piece : List (List Nat)} {b : SB} {t : SS} {nm : Str} {pre : ι → Mach → List (List Nat) → SS → Prop} {as : ι → List Slot} {st : ι → Mach → List (List Nat) → SS → SS} {Φ : ι → Mach → List (List Nat) → SS → Slot} {XX : XK} {tg : TA} (x : ι)
    (o : EnvOk w.G σ Γ) (sa : SearchAt K m piece b t w) (hp : pre x m piece t) (hl : (sFs K m piece b (foundI t.found)).lookup nm = none) (ha : E ta Γ w (sRef b.p)) (h : EA tg Γ w (as x)) :
    X (tMeth (He.ga K "Search") nm (spS K pre as st Φ) [] XX ta tg) σ w (fun v w2 => LeB b.B w w2 ∧ SearchAt K m piece b (st x m piece t) w2 ∧ (Φ x m piece t).P w2.G v) := fun Q q =>
  ha σ w .refl o _ fun v w1 l1 pv => by
    cases pv
    obtain ⟨vs, hh, r⟩ := (sa.up l1).ins.at_
    exact ⟨b.p, b.dx, vs, rfl, hh, r.no hl, h σ w1 l1 (o.up l1) _ fun us w2 l2 a => ⟨x, m, piece, b, t, w2, us, rfl, by rw [List.append_nil], hp, sa.up (l1.trans l2), a, fun v w3 l3 s3 p3 => q v w3 ⟨(LeB.up (l1.trans l2)).trans l3, s3, p3⟩⟩⟩
end
end R40

set_option Elab.async false
set_option linter.all false
set_option maxRecDepth 100000
set_option maxHeartbeats 4000000
/-! Walks: Search.__init__, place. -/
namespace R40
open PySem PySem.Spec PyProof.Rows L2 M40
section
variable {P : Program} {w : World} {K : PySem.W.Frag} {mg : Str → Option Value} {base : Heap}
/-- a new search -/
def spNewS (K : PySem.W.Frag) : Sp := fun vs H Q _ => ∃ (m : Mach) (piece : List (List Nat)) (w : Wd) (p dx : Addr) (us : List V), w.H = H ∧ vs = .ref p :: us ∧ Args w.G us [sMach K m, sPiece piece] ∧
  w.H p = some (.ins (He.ga K "Search") dx []) ∧ w.G p = none ∧ ∀ (w2 : Wd) (b : SB), b.p = p → b.dx = dx → LeB [p] w w2 → SearchAt K m piece b .none w2 → w.H b.lp = none → w.H b.ls = none → w.H b.lo = none → Q .non w2.H
theorem ok_Search_init (T : Txt K mg) : Ok_Search_init P w K mg base (spNewS K) := by
  refine okF T.f_Search_init sc_Search_init (fun vs H Q E h => ?_) fun cdv A outer s H E hr => ⟨_, (pss_cons (ps_fld (pv 0) (pv 1) rfl) (pss_cons (ps_fld (pv 0) (pv 2) rfl) (pss_cons (ps_fld (pv 0) (pe_lst pa_nil) rfl) (pss_cons (ps_fld (pv 0) (pe_lst pa_nil) rfl) (pss_cons (ps_fld (pv 0) (pe_lst pa_nil) rfl) (pss_one (ps_fld (pv 0) (pe_un un_neg pe_int) rfl))))))), ?_⟩
  · obtain ⟨m, piece, w, p, dx, us, _, rfl, a, _⟩ := h
    rw [List.length_cons, a.len]
    rfl
  rintro vs H Q ⟨m, piece, w0, p, dx, us, rfl, rfl, a, hh, hg, k⟩
  have o : EnvOk w0.G (L2.start N_Search_init (.ref p :: us)) [some (sRef p), some (sMach K m), some (sPiece piece)] := args_start (ss := [sRef p, sMach K m, sPiece piece]) (.cons rfl a)
  have ow0 := OwnI.start (C := He.ga K "Search") hh hg
  refine q_fld o ow0 T.c_Search T.a_Search__machine (by simp) (by decide) (e_var (s := sMach K m) rfl) (e_var rfl) fun w1 ow1 o1 => ?_
  refine q_fld o1 ow1 T.c_Search T.a_Search__piece (by show ¬ ("_piece" : Str) ∈ (["_machine"] : List Str); decide +kernel) (by show 1 < 1000; decide) (e_var (s := sPiece piece) rfl) (e_var rfl) fun w2 ow2 o2 => ?_
  refine q_fldL (R := fun n : Nat => sNat n) (xs := []) o2 ow2 T.c_Search T.a_Search__packed (by show ¬ ("_packed" : Str) ∈ (["_machine", "_piece"] : List Str); decide +kernel) (by show 2 < 1000; decide) el_nil (e_var rfl) fun w3 lp l3 ow3 own3 n3 e3 o3 => ?_
  refine q_fldL (R := sNs) (xs := []) o3 ow3 T.c_Search T.a_Search_sketches (by show ¬ ("sketches" : Str) ∈ (["_machine", "_piece", "_packed"] : List Str); decide +kernel) (by show 3 < 1000; decide) el_nil (e_var rfl) fun w4 ls l4 ow4 own4 n4 e4 o4 => ?_
  refine q_fldL (R := sOrg) (xs := []) o4 ow4 T.c_Search T.a_Search_origins (by show ¬ ("origins" : Str) ∈ (["_machine", "_piece", "_packed", "sketches"] : List Str); decide +kernel) (by show 4 < 1000; decide) el_nil (e_var rfl) fun w5 lo l5 ow5 own5 n5 e5 o5 => ?_
  refine s_fldB o5 ow5 T.c_Search T.a_Search_found (by show ¬ ("found" : Str) ∈ (["_machine", "_piece", "_packed", "sketches", "origins"] : List Str); decide +kernel) (by show 5 < 1000; decide) (s := sInt (-1)) (e_neg e_c) (e_var rfl) fun w6 l6 ow6 o6 => ?_
  have ne : ∀ {a : Addr}, a ≠ p → a ∉ [p] := fun h m => h (List.mem_singleton.mp m)
  have pk := ((own3.nilB l4 (ne e3)).nilB l5 (ne e3)).nilB l6 (ne e3)
  have sk := (own4.nilB l5 (ne e4)).nilB l6 (ne e4)
  have og := own5.nilB l6 (ne e5)
  have d1 : lp ≠ ls := fun e => by
    obtain ⟨_, q, _⟩ := own3.at_
    rw [e, n4] at q
    cases q
  have d2 : lp ≠ lo := fun e => by
    obtain ⟨_, q, _⟩ := (own3.nilB l4 (ne e3)).at_
    rw [e, n5] at q
    cases q
  have d3 : ls ≠ lo := fun e => by
    obtain ⟨_, q, _⟩ := own4.at_
    rw [e, n5] at q
    cases q
  have b3 := ow2.le
  have b4 := b3.trans l3
  have b5 := b4.trans l4
  refine k w6 ⟨p, dx, lp, ls, lo⟩ rfl rfl ow6.le ⟨⟨nil_le, ow6.g, ow6.at_⟩, pk, sk, og, ?_⟩ (b3.free n3 (ne e3)) (b4.free n4 (ne e4)) (b5.free n5 (ne e5))
  show [p, lp, ls, lo].Nodup
  simp [d1, d2, d3, Ne.symm e3, Ne.symm e4, Ne.symm e5]
theorem q_newS {Γ : Env} {w : Wd} {ta : TA} {σ : L2.St} {D : Ends} {tz : TS} {i : Nat} {m : Mach} {piece : List (List Nat)} {XX : XK} (o : EnvOk w.G σ Γ) (h : EA ta Γ w [sMach K m, sPiece piece])
    (k : ∀ (b : SB) (σ' : L2.St) (w2 : Wd), Le w w2 → SearchAt K m piece b .none w2 → EnvOk w2.G σ' (Γ.set i (some (sRef b.p))) → (∀ a ∈ b.B, w.H a = none) → tz D σ' w2.H) : tSeq (tAsg (tMake (He.ga K "Search") (spNewS K) [] XX ta) (gName i)) tz D σ w.H :=
  h σ w .refl o _ fun vs w1 l1 a p dx np nd ne => by
    refine ⟨m, piece, w1.made p dx (He.ga K "Search") np nd ne, p, dx, vs, rfl, by rw [List.append_nil], a.mono Wd.le_made.g, Wd.made_h, Wd.made_g, fun w2 b hb hd l2 sa f1 f2 f3 => ⟨rfl, ?_⟩⟩
    subst hb
    have l3 : Le w1 w2 := Wd.le_made.thenB l2 (fun a m => by rw [List.mem_singleton.mp m]; exact np)
    have l4 : Le w w2 := l1.trans l3
    refine k b _ w2 l4 sa ((o.up l4).set rfl) fun a ha => ?_
    have lm : Le w (w1.made b.p dx (He.ga K "Search") np nd ne) := l1.trans Wd.le_made
    have ha : a = b.p ∨ a = b.lp ∨ a = b.ls ∨ a = b.lo := by simpa using ha
    rcases ha with rfl | rfl | rfl | rfl
    · exact l1.free np
    · exact lm.free f1
    · exact lm.free f2
    · exact lm.free f3
/-! ### place -/
abbrev stPlace : List Nat × Option (Nat × Nat) → Mach → List (List Nat) → SS → SS := fun x m _ t => (placeF m.first t x.1 x.2).1
abbrev spPlace (K : PySem.W.Frag) : Sp := spS K (fun (x : List Nat × Option (Nat × Nat)) m _ t => OkM m ∧ OkSk m.sizes x.1 ∧ StOk m.sizes t) (fun x => [sNs x.1, sOrg x.2]) stPlace (fun x m _ t => sNat (placeF m.first t x.1 x.2).2)
theorem sk_small {m : Mach} (hm : OkM m) {s : List Nat} (h : OkSk m.sizes s) : ∀ x ∈ s, x < 65536 := fun x hx => by
  have := sk_lt (fun i hi => (hm.size i hi).2) h x hx
  omega
theorem ok_Search_place (T : Txt K mg) : Ok_Search_place P w K mg base (spPlace K) := by
  refine okF T.f_Search_place sc_Search_place (fun vs H Q E h => ?_) fun cdv A outer s H E hr => ⟨_, (pss_cons (ps_set (i := 3) sc_Search_place.nd rfl (Or.inl rfl) (pe_call (ok_packed_sketch T) (hr.mono (by decide)) rfl T.g_packed_sketch T.f_packed_sketch.kp T.b_packed_sketch .nil pass0 (pa_cons (pv 1) pa_nil))) (pss_cons (ps_for PassesOwn.never rfl (pi_enum (by rfl) T.n_enumerate (pa_cons (pe_fld (pv 0) rfl) pa_nil)) (pg_tup rfl (pgs_cons (pg_name (i := 4) sc_Search_place.nd rfl (Or.inl rfl)) (pgs_cons (pg_name (i := 5) sc_Search_place.nd rfl (Or.inl rfl)) pgs_nil))) (pss_one (ps_if (pt_cmpR op_eq (pe_op op_and (pv 3) (pv 5)) (pv 3) (nomark _)) (pss_one (ps_ret (pv 4))) pss_nil))) (pss_cons (ps_expr (pe_bm PySem.F.plainAttrs_list PySem.F.slot_list_append PySem.F.type_list_append mt_append (pe_fld (pv 0) rfl) (pa_cons (pv 3) pa_nil))) (pss_cons (ps_expr (pe_bm PySem.F.plainAttrs_list PySem.F.slot_list_append PySem.F.type_list_append mt_append (pe_fld (pv 0) rfl) (pa_cons (pv 1) pa_nil))) (pss_cons (ps_expr (pe_bm PySem.F.plainAttrs_list PySem.F.slot_list_append PySem.F.type_list_append mt_append (pe_fld (pv 0) rfl) (pa_cons (pv 2) pa_nil))) (pss_cons (ps_if (PW.pt (pw_and (pt_cmpR op_lt (pe_fld (pv 0) rfl) pe_int (nomark _)) (pw_and1 (pt_cmpR op_notN (pe_call (ok_meet T) (hr.mono (by decide)) rfl T.g_meet T.f_meet.kp T.b_meet .nil pass0 (pa_cons (pv 1) (pa_cons (pe_fld (pe_fld (pv 0) rfl) rfl) pa_nil))) pe_non (nomark _))))) (pss_one (ps_fld (pv 0) (pe_op op_sub (pe_callB call_len_seq (by rfl) T.n_len boot_len (pa_cons (pe_fld (pv 0) rfl) pa_nil)) pe_int) rfl)) pss_nil) (pss_one (ps_ret (pe_op op_sub (pe_callB call_len_seq (by rfl) T.n_len boot_len (pa_cons (pe_fld (pv 0) rfl) pa_nil)) pe_int))))))))), ?_⟩
  · obtain ⟨x, m, piece, b, t, w, us, _, rfl, _, _, a, _⟩ := h
    rw [List.length_cons, a.len]
    rfl
  rintro vs H Q ⟨⟨sk, og⟩, m, piece, b, t, w0, us, rfl, rfl, ⟨hm, hs, ht⟩, sa, a, k⟩
  have hm : OkM m := hm
  have hs : OkSk m.sizes sk := hs
  have ht : StOk m.sizes t := ht
  have k : ∀ v w2, LeB b.B w0 w2 → SearchAt K m piece b (placeF m.first t sk og).1 w2 → (sNat (placeF m.first t sk og).2).P w2.G v → Q v w2.H := k
  have o : EnvOk w0.G (L2.start N_Search_place (.ref b.p :: us)) [some (sRef b.p), some (sNs sk), some (sOrg og), none, none, none] := args_start (ss := [sRef b.p, sNs sk, sOrg og]) (.cons rfl a)
  have few := ht.few hm
  have lsk : sk.length ≤ 4 := by rw [hs.1]; exact hm.few
  refine q_set o (e_call sk ⟨lsk, sk_small hm hs⟩ (ea_cons (e_var rfl) ea_nil)) fun σ1 w1 l1 o1 => ?_
  have sa1 := sa.up l1
  obtain ⟨vp, hvp, rp⟩ := sa1.pk.at_
  have hinc : ∀ o ∈ t.sks, (packF sk &&& packF o == packF sk) = incF sk o := fun o ho => pack_inc (by rw [hs.1, (ht.ok o ho).1]) (sk_small hm hs) (sk_small hm (ht.ok o ho))
  refine seq (s_forO o1 (io_enumL hvp rp (e_fldOw sa1.ins T.c_Search T.a_Search__packed rfl (e_var rfl))) hvp (fun p => b_t2 b_name b_name)
    (fun _ => [some (sRef b.p), some (sNs sk), some (sOrg og), some (sNat (packF sk)), none, none]) (fun i w2 => Le w0 w2 ∧ ∀ j, j < i → ∀ o, t.sks[j]? = some o → incF sk o = false) (fun _ _ _ h l => ⟨h.1.trans l, h.2⟩) (fun w2 l2 o2 => ⟨o2, l1.trans l2, fun j hj => absurd hj (Nat.not_lt_zero j)⟩)
    (fun i p σ2 w2 hp o2 h2 hl2 N hN => ?_) (fun σ2 w2 o2 h2 hl2 => ?_))
  · obtain ⟨e1, e2⟩ := enumN_at hp
    rw [List.getElem?_map] at e2
    cases e3 : t.sks[i]? with
    | none => rw [e3] at e2; cases e2
    | some s2 =>
      rw [e3] at e2
      have e4 : packF s2 = p.2 := Option.some.inj e2
      refine s_if o2 (t_eqN (a := packF sk &&& p.2) (b := packF sk) (e_and (e_var rfl) (e_var rfl)) (e_var rfl)) (fun q w3 l3 o3 => ?_) (fun q w3 l3 o3 => ?_)
      · rw [← e4, hinc s2 (List.mem_of_getElem? e3)] at q
        have hf : t.sks.findIdx? (incF sk) = some p.1 := by
          rw [e1, List.findIdx?_eq_some_iff_getElem]
          obtain ⟨hi, e5⟩ := List.getElem?_eq_some_iff.mp e3
          refine ⟨hi, by rw [e5]; exact q, fun j hj => ?_⟩
          rw [h2.2 j hj _ (List.getElem?_eq_getElem (by omega))]
          decide
        have ep : placeF m.first t sk og = (t, p.1) := by
          unfold placeF
          rw [hf]
        rw [ep] at k
        refine s_ret o3 (e_var (s := sNat p.1) rfl) fun v w4 l4 pv => k v w4 (LeB.up (h2.1.trans (l3.trans l4))) (sa.up (h2.1.trans (l3.trans l4))) pv
      · rw [← e4, hinc s2 (List.mem_of_getElem? e3)] at q
        refine hN σ2 w3 _ o3 (fun o => (o.drop 4).drop 5) ⟨h2.1.trans l3, fun j hj o ho => ?_⟩ l3.g (l3.h _ _ List.not_mem_nil hl2)
        by_cases ej : j = i
        · subst ej
          rw [e3] at ho
          cases ho
          exact q
        · exact h2.2 j (by omega) o ho
  obtain ⟨l2, no⟩ := h2
  have hf : t.sks.findIdx? (incF sk) = none := by
    rw [List.findIdx?_eq_none_iff]
    intro o ho
    obtain ⟨j, hj⟩ := List.mem_iff_getElem?.mp ho
    refine no j ?_ o hj
    rw [enumN_length, List.length_map]
    exact (List.getElem?_eq_some_iff.mp hj).1
  have sa2 := sa.up l2
  have dist : b.p ≠ b.lp ∧ b.p ≠ b.ls ∧ b.p ≠ b.lo ∧ b.lp ≠ b.ls ∧ b.lp ≠ b.lo ∧ b.ls ≠ b.lo := by
    obtain ⟨n1, r1⟩ := List.nodup_cons.mp sa.nd
    obtain ⟨n2, r2⟩ := List.nodup_cons.mp r1
    obtain ⟨n3, _⟩ := List.nodup_cons.mp r2
    exact ⟨fun e => n1 (by rw [e]; simp), fun e => n1 (by rw [e]; simp), fun e => n1 (by rw [e]; simp), fun e => n2 (by rw [e]; simp), fun e => n2 (by rw [e]; simp), fun e => n3 (by rw [e]; simp)⟩
  obtain ⟨d1, d2, d3, d4, d5, d6⟩ := dist
  have ni : ∀ {a c : Addr}, a ≠ c → a ∉ [c] := fun h m => h (List.mem_singleton.mp m)
  refine q_app (R := fun n : Nat => sNat n) o2 sa2.pk (by rw [List.length_map]; omega) (e_fldOw sa2.ins T.c_Search T.a_Search__packed rfl (e_var rfl)) (e_var (s := sNat (packF sk)) rfl) fun w3 l3 pk3 o3 => ?_
  have ins3 := OwnI.upB (w0 := w2) sa2.ins l3 (ni d1)
  have sk3 := sa2.sk.nilB l3 (ni (Ne.symm d4))
  have og3 := sa2.og.nilB l3 (ni (Ne.symm d5))
  refine q_app (R := sNs) o3 sk3 (by omega) (e_fldOw ins3 T.c_Search T.a_Search_sketches rfl (e_var rfl)) (e_var (s := sNs sk) rfl) fun w4 l4 sk4 o4 => ?_
  have ins4 := OwnI.upB (w0 := w2) ins3 l4 (ni d2)
  have pk4 := pk3.nilB l4 (ni d4)
  have og4 := og3.nilB l4 (ni (Ne.symm d6))
  refine q_app (R := sOrg) o4 og4 (by rw [ht.len]; omega) (e_fldOw ins4 T.c_Search T.a_Search_origins rfl (e_var rfl)) (e_var (s := sOrg og) rfl) fun w5 l5 og5 o5 => ?_
  have ins5 := OwnI.upB (w0 := w2) ins4 l5 (ni d3)
  have pk5 := pk4.nilB l5 (ni d5)
  have sk5 := sk4.nilB l5 (ni d6)
  have inB : ∀ {a : Addr}, a ∈ b.B → ∀ x ∈ [a], x ∈ b.B := fun h x hx => by rw [List.mem_singleton.mp hx]; exact h
  have wid : ∀ {a : Addr} {u1 u2 : Wd}, a ∈ b.B → LeB [a] u1 u2 → LeB b.B u1 u2 := fun h l => ⟨l.g, fun x o hx => l.h x o fun m => hx (inB h x m), fun x o hx => l.own x o fun m => hx (inB h x m)⟩
  have l05 : LeB b.B w0 w5 := (LeB.up l2).trans ((wid (by simp) l3).trans ((wid (by simp) l4).trans (wid (by simp) l5)))
  have lens : (t.sks ++ [sk]).length - 1 = t.sks.length := by rw [List.length_append]; exact Nat.add_sub_cancel ..
  have fin : ∀ (f : Option Nat) (w6 : Wd), (placeF m.first t sk og).1.found = f → LeB [b.p] w5 w6 → OwnI .nil b.p (He.ga K "Search") b.dx (sFs K m piece b (foundI f)) w6 → ∀ v, (sNat ((t.sks ++ [sk]).length - 1)).P w6.G v → Q v w6.H := fun f w6 hf2 l6 ins6 v pv => by
    have ep : placeF m.first t sk og = (⟨t.sks ++ [sk], t.org ++ [og], f⟩, t.sks.length) := by
      rw [← hf2]
      unfold placeF
      rw [hf]
    rw [lens] at pv
    rw [ep] at k
    refine k v w6 (l05.trans (wid (by simp) l6)) ⟨ins6, ?_, sk5.nilB l6 (ni (Ne.symm d2)), og5.nilB l6 (ni (Ne.symm d3)), sa.nd⟩ pv
    rw [List.map_append]
    exact pk5.nilB l6 (ni (Ne.symm d1))
  have hmeet : (meetF sk m.first).isNone = !(meetF sk m.first).isSome := by cases meetF sk m.first <;> rfl
  refine q_if (b := decide (foundI t.found < 0) && (meetF sk m.first).isSome) o5 (t_and (t_test (e_I0 (g := fun i j => .bl (decide (i < j))) (i := foundI t.found) (j := 0) (e_fldOw ins5 T.c_Search T.a_Search_found rfl (e_var rfl)) e_c)) fun _ =>
    t_test (e_notN (meetF sk m.first).isSome (fun G v p => by rw [opt_isN tup_ne _ G v p, hmeet, Bool.not_not]) (e_call (sk, m.first) (by show sk.length ≤ 1000; omega) (ea_cons (e_var rfl) (ea_cons (e_fld T.c_Machine T.a_Machine_first rfl (e_fldOw ins5 T.c_Search T.a_Search__machine rfl (e_var rfl))) ea_nil))))) (fun q w6 l6 o6 => ?_) (fun q w6 l6 o6 => ?_)
  · rw [Bool.and_eq_true, decide_eq_true_eq] at q
    have ef : t.found = none := by
      cases e : t.found with
      | none => rfl
      | some f => rw [e] at q; have := q.1; simp only [foundI] at this; omega
    refine s_fldU (w0 := .nil) (fs := sFs0 K m piece b) o6 (OwnI.upB (w0 := w5) ins5 l6 List.not_mem_nil) T.c_Search T.a_Search_found (by show ¬ ("found" : Str) ∈ (["_machine", "_piece", "_packed", "sketches", "origins"] : List Str); decide +kernel) (by show 5 < 900; decide)
      (e_minus (a := (t.sks ++ [sk]).length) (b := 1) (by rw [List.length_append]; exact Nat.le_add_left ..) (e_lenOw (sk5.up l6) (e_fldOw (OwnI.upB (w0 := w5) ins5 l6 List.not_mem_nil) T.c_Search T.a_Search_sketches rfl (e_var rfl))) (e_n 1 1)) (e_var rfl) fun w7 l7 ins7 o7 => ?_
    rw [lens] at ins7
    refine s_ret o7 (e_minus (a := (t.sks ++ [sk]).length) (b := 1) (by rw [List.length_append]; exact Nat.le_add_left ..) (e_lenOw ((sk5.up l6).nilB l7 (ni (Ne.symm d2))) (e_fldOw (fs := sFs K m piece b _) ins7 T.c_Search T.a_Search_sketches rfl (e_var rfl))) (e_n 1 1)) fun v w8 l8 pv => ?_
    refine fin (some t.sks.length) w8 (by unfold placeF; rw [hf, ef]; exact if_pos q.2) ((LeB.up l6).trans (l7.trans (LeB.up l8))) (OwnI.upB (w0 := w7) ins7 l8 List.not_mem_nil) v pv
  · refine s_ret o6 (e_minus (a := (t.sks ++ [sk]).length) (b := 1) (by rw [List.length_append]; exact Nat.le_add_left ..) (e_lenOw (sk5.up l6) (e_fldOw (OwnI.upB (w0 := w5) ins5 l6 List.not_mem_nil) T.c_Search T.a_Search_sketches rfl (e_var rfl))) (e_n 1 1)) fun v w8 l8 pv => ?_
    refine fin t.found w8 ?_ (LeB.up (l6.trans l8)) (OwnI.upB (w0 := w5) ins5 (l6.trans l8) List.not_mem_nil) v pv
    unfold placeF
    rw [hf]
    cases e : t.found with
    | some f => rfl
    | none =>
      rw [e] at q
      have q2 : (meetF sk m.first).isSome = false := by simpa [foundI] using q
      exact if_neg (by rw [q2]; decide)
end
end R40

set_option Elab.async false
set_option linter.all false
set_option maxRecDepth 100000
set_option maxHeartbeats 4000000
/-! Walks: places, row. -/
namespace R40
open PySem PySem.Spec PyProof.Rows L2 M40
section
variable {P : Program} {w : World} {K : PySem.W.Frag} {mg : Str → Option Value} {base : Heap}
abbrev stPlaces : List Nat × Option (Nat × Nat) → Mach → List (List Nat) → SS → SS := fun x m piece t => (placesF m.first piece t x.1 x.2).1
abbrev PieceOk (m : Mach) (piece : List (List Nat)) : Prop := piece.length ≤ 2 ∧ ∀ q ∈ piece, OkSk m.sizes q
abbrev spPlaces (K : PySem.W.Frag) : Sp := spS K (fun (x : List Nat × Option (Nat × Nat)) m piece t => OkM m ∧ PieceOk m piece ∧ OkSk m.sizes x.1 ∧ StOk m.sizes t) (fun x => [sNs x.1, sOrg x.2]) stPlaces (fun x m piece t => sLst (fun n : Nat => sNat n) (placesF m.first piece t x.1 x.2).2)
theorem LeB.frz {B : List Addr} {w0 w : Wd} {p : Addr} {o : HO} {hp : w.H p = some o} (a : LeB B w0 w) (hg : w.G p = none) (h0 : w0.H p = none) : LeB B w0 (w.frz p o hp) := by
  have ne : ∀ x u, w0.H x = some u → x ≠ p := fun x u h e => by rw [e, h0] at h; cases h
  exact ⟨fun x u h => keepU (neN (a.g x u h) hg) (a.g x u h), fun x u hx h => a.h x u hx h, fun x u hx h n => keepU (ne x u h) (a.own x u hx h n)⟩
theorem LeB.put {B : List Addr} {w0 w : Wd} {p : Addr} {o : HO} {hp : w.G p = none} {ht : ∀ vs, o ≠ .tup vs} (a : LeB B w0 w) (h0 : w0.H p = none) : LeB B w0 (w.put p o hp ht) := by
  have ne : ∀ x u, w0.H x = some u → x ≠ p := fun x u h e => by rw [e, h0] at h; cases h
  exact ⟨a.g, fun x u hx h => keepU (ne x u h) (a.h x u hx h), a.own⟩
theorem LeB.thenNew {B : List Addr} {w0 w1 w2 : Wd} {l : Addr} (a : LeB B w0 w1) (b : LeB [l] w1 w2) (h0 : w0.H l = none) : LeB B w0 w2 := by
  have ne : ∀ x u, w0.H x = some u → x ∉ [l] := fun x u h e => by rw [List.mem_singleton.mp e, h0] at h; cases h
  exact ⟨fun x u h => b.g x u (a.g x u h), fun x u hx h => b.h x u (ne x u h) (a.h x u hx h), fun x u hx h n => b.own x u (ne x u h) (a.h x u hx h) (a.own x u hx h n)⟩
theorem ok_Search_places (T : Txt K mg) : Ok_Search_places P w K mg base (spPlaces K) := by
  refine okF T.f_Search_places sc_Search_places (fun vs H Q E h => ?_) fun cdv A outer s H E hr => ⟨_, (pss_one (ps_ret (pe_lc (own := [("part", 3)]) (g := (gName 3)) (tt := tYes) (te := (tMeth (He.ga K "Search") "place" _ [] E0 (tVar 0) (tCons (tVar 3) (tCons (tVar 2) tNil)))) rfl sc_Search_places.nd (pi_list (pe_call (ok_without T) (hr.mono (by decide)) rfl T.g_without T.f_without.kp T.b_without .nil pass0 (pa_cons (pv 1) (pa_cons (pe_fld (pv 0) rfl) pa_nil)))) (blkOk_by (own := [("part", 3)]) (N := N_Search_places) (sc := defScope st_Search_places) (by decide +kernel)) (fun _ _ _ _ _ => (pg_name (i := 3) sc_Search_places.nd rfl (Or.inl rfl))) (fun _ _ _ _ _ => pts_nil) (fun _ _ _ _ _ => (pe_meth (pv 0) T.c_Search T.m_Search_place (ok_Search_place T) (hr.mono (by decide)) T.b_Search_place .nil pass0 (pa_cons (pv 3) (pa_cons (pv 2) pa_nil))))))), ?_⟩
  · obtain ⟨x, m, piece, b, t, w, us, _, rfl, _, _, a, _⟩ := h
    rw [List.length_cons, a.len]
    rfl
  rintro vs H Q ⟨⟨sk, og⟩, m, piece, b, t, w0, us, rfl, rfl, ⟨hm, hpc, hs, ht⟩, sa, a, k⟩
  have hm : OkM m := hm
  have hs : OkSk m.sizes sk := hs
  have ht : StOk m.sizes t := ht
  have hpc : PieceOk m piece := hpc
  have k : ∀ v w2, LeB b.B w0 w2 → SearchAt K m piece b (placesF m.first piece t sk og).1 w2 → (sLst (fun n : Nat => sNat n) (placesF m.first piece t sk og).2).P w2.G v → Q v w2.H := k
  have o : EnvOk w0.G (L2.start N_Search_places (.ref b.p :: us)) [some (sRef b.p), some (sNs sk), some (sOrg og), none] := args_start (ss := [sRef b.p, sNs sk, sOrg og]) (.cons rfl a)
  have lsk : sk.length ≤ 4 := by rw [hs.1]; exact hm.few
  have plen : ∀ q ∈ piece, q.length = sk.length := fun q hq => by rw [(hpc.2 q hq).1, hs.1]
  have plen2 : ∀ q ∈ piece, q.length = m.sizes.length := fun q hq => (hpc.2 q hq).1
  have hz : (withoutF sk piece).length ≤ 1000000 := by
    have q := without_few (a := sk) lsk piece [sk] plen (fun z hz => by rw [List.mem_singleton.mp hz])
    have q2 : (withoutF sk piece).length ≤ 1 * 5 ^ piece.length := q
    have q4 : 5 ^ piece.length ≤ 5 ^ 2 := Nat.pow_le_pow_right (by decide) hpc.1
    omega
  have hall : ∀ q ∈ withoutF sk piece, OkSk m.sizes q := without_ok hs plen2
  have hit : I (iList K (tCall spWithout [] E0 (tCons (tVar 1) (tCons (tFld K (tVar 0) "_piece") tNil)))) [some (sRef b.p), some (sNs sk), some (sOrg og), none] w0 (withoutF sk piece) sNs :=
    i_list (e_call (sk, piece) ⟨lsk, hpc.1, plen⟩ (ea_cons (e_var rfl) (ea_cons (e_fldOw sa.ins T.c_Search T.a_Search__piece rfl (e_var rfl)) ea_nil)))
  unfold tRet tLc
  refine hit _ w0 .refl o _ fun J w1 l1 TT => ?_
  intro Dd nD
  have gD : w1.G Dd = none := w1.gfree nD
  have nD0 : w0.H Dd = none := l1.free nD
  have sa1 := sa.up l1
  have nB : ∀ a ∈ b.B, a ∉ [Dd] := sa1.new nD
  have nB2 : Dd ∉ b.B := fun m => nB Dd m (List.mem_singleton.mpr rfl)
  have sa2 : SearchAt K m piece b t (w1.put Dd (.lst []) gD) := sa1.up (Wd.le_put nD)
  refine ⟨fun i n H' => ∃ w' : Wd, H' = w'.H ∧ n = (withoutF sk piece).length - i ∧ i ≤ (withoutF sk piece).length ∧ LeB b.B w0 w' ∧ Gx w1 w' ∧ SearchAt K m piece b (placeAll m.first og t ((withoutF sk piece).take i)).1 w' ∧ Own .nil Dd (fun n : Nat => sNat n) (placeAll m.first og t ((withoutF sk piece).take i)).2 w',
    ⟨_, w1.put Dd (.lst []) gD, rfl, rfl, Nat.zero_le _, LeB.up (l1.trans (Wd.le_put nD)), fun _ _ e => e, sa2, nil_le, rfl, gD, [], upd_same, .nil⟩, ?_⟩
  rintro i n H' ⟨w', rfl, rfl, hi, l', g', sa', ow'⟩
  by_cases hlt : i < (withoutF sk piece).length
  · have hx : (withoutF sk piece)[i]? = some (withoutF sk piece)[i] := List.getElem?_eq_getElem hlt
    have hmem : (withoutF sk piece)[i] ∈ withoutF sk piece := List.getElem_mem hlt
    have etk : (withoutF sk piece).take (i + 1) = (withoutF sk piece).take i ++ [(withoutF sk piece)[i]] := by rw [List.take_add_one, hx]; rfl
    refine .inr ⟨TT.go i w' hlt g', fun H2 => ∃ w3 : Wd, H2 = w3.H ∧ LeB b.B w0 w3 ∧ Gx w1 w3 ∧ SearchAt K m piece b (placeAll m.first og t ((withoutF sk piece).take (i + 1))).1 w3 ∧ Own .nil Dd (fun n : Nat => sNat n) (placeAll m.first og t ((withoutF sk piece).take (i + 1))).2 w3, ?_, fun v H2 y => ?_⟩
    · rintro H2 ⟨w3, rfl, l3, g3, sa3, ow3⟩
      exact ⟨(withoutF sk piece).length - (i + 1), by omega, w3, rfl, rfl, hlt, l3, g3, sa3, ow3⟩
    · obtain ⟨w3, rfl, l3, pv⟩ := TT.yld i w' v H2 (withoutF sk piece)[i] hx g' y
      have o3 : EnvOk w3.G (wipe (L2.start N_Search_places (.ref b.p :: us)) [3]) [some (sRef b.p), some (sNs sk), some (sOrg og), none] := (o.mono fun a u z => l3.g a u (l'.g a u z)).wiped [3]
      refine b_name (s := sNs (withoutF sk piece)[i]) (i := 3) v _ w3 _ pv o3 _ fun σ2 o2 k2 len2 => ⟨wipe_bind (js := [3]) k2 len2 (fun _ h => h), ?_⟩
      refine yesT (iteT ?_)
      have o2 : EnvOk w3.G σ2 [some (sRef b.p), some (sNs sk), some (sOrg og), some (sNs (withoutF sk piece)[i])] := o2
      have st' : StOk m.sizes (placeAll m.first og t ((withoutF sk piece).take i)).1 := placeAll_ok _ t ht fun q hq => hall q (List.mem_of_mem_take hq)
      refine x_meth ((withoutF sk piece)[i], og) o2 (sa'.up l3) ⟨hm, hall _ hmem, st'⟩ rfl (e_var rfl) (ea_cons (e_var rfl) (ea_cons (e_var rfl) ea_nil)) _ fun z w4 ⟨l4, sa4, pz⟩ => ?_
      have ow4 := (ow'.nilB (LeB.up (B := b.B) l3) nB2).nilB l4 nB2
      obtain ⟨vs, e4, r4⟩ := ow4.at_
      have l04 : LeB b.B w0 w4 := l'.trans ((LeB.up l3).trans l4)
      refine ⟨vs, e4, Nat.lt_of_le_of_lt (?_ : vs.length ≤ 1000000) (by decide), w4.put Dd (.lst (vs ++ [z])) ow4.g, rfl, l04.put nD0, fun a u q => l4.g a u (l3.g a u (g' a u q)), ?_, ?_⟩
      · rw [r4.len, placeAll_len, List.length_take]
        omega
      · rw [etk, placeAll_snoc]
        exact sa4.upB (Wd.leB_put (List.mem_singleton.mpr rfl)) nB
      · rw [etk, placeAll_snoc]
        exact ⟨nil_le, rfl, ow4.g, vs ++ [z], upd_same, r4.snoc pz⟩
  · have e : i = (withoutF sk piece).length := by omega
    subst e
    rw [List.take_length] at sa' ow'
    obtain ⟨vs, e4, r4⟩ := ow'.at_
    refine .inl ⟨TT.stop w' g', ?_⟩
    refine k (.ref Dd) (w'.frz Dd (.lst vs) e4) (l'.frz ow'.g nD0) (sa'.upB (Wd.frz_leB ow'.g (List.mem_singleton.mpr rfl)) nB) ⟨Dd, vs, rfl, upd_same, r4.mono fun b u e => keepU (neN e ow'.g) e⟩
/-! ### row -/
abbrev sRow (l : List (List Nat)) : Slot := sLst (fun e : List Nat => sLst (fun n : Nat => sNat n) e) l
abbrev spRow (K : PySem.W.Frag) : Sp := spS K (fun (n : Nat) m piece t => OkM m ∧ PieceOk m piece ∧ StOk m.sizes t ∧ n < t.sks.length) (fun n => [sNat n]) (fun n m piece t => (rowF m piece t n).1) (fun n m piece t => sRow (rowF m piece t n).2)
theorem ok_Search_row (T : Txt K mg) : Ok_Search_row P w K mg base (spRow K) := by
  refine okF T.f_Search_row sc_Search_row (fun vs H Q E h => ?_) fun cdv A outer s H E hr => ⟨_, (pss_cons (ps_set (i := 2) sc_Search_row.nd rfl (Or.inl rfl) (pe_lst pa_nil)) (pss_cons (ps_for PassesOwn.never rfl (pi_range1 rfl T.n_range (pa_cons (pe_callB call_len_seq (by rfl) T.n_len boot_len (pa_cons (pe_fld (pe_fld (pv 0) rfl) rfl) pa_nil)) pa_nil)) (pg_name (i := 3) sc_Search_row.nd rfl (Or.inl rfl)) (pss_cons (ps_set (i := 4) sc_Search_row.nd rfl (Or.inl rfl) (pe_call (ok_sketch_before T) (hr.mono (by decide)) rfl T.g_sketch_before T.f_sketch_before.kp T.b_sketch_before .nil pass0 (pa_cons (pe_fld (pv 0) rfl) (pa_cons (pe_ix ix_list (pe_fld (pv 0) rfl) (pv 1) (fun _ _ => rfl)) (pa_cons (pv 3) pa_nil))))) (pss_one (ps_expr (pe_bm PySem.F.plainAttrs_list PySem.F.slot_list_append PySem.F.type_list_append mt_append (pv 2) (pa_cons (pe_ifExp (pt_cmpR op_isN (pv 4) pe_non (nomark _)) (pe_lst pa_nil) (pe_meth (pv 0) T.c_Search T.m_Search_places (ok_Search_places T) (hr.mono (by decide)) T.b_Search_places .nil pass0 (pa_cons (pv 4) (pa_cons (pe_tup (pa_cons (pv 3) (pa_cons (pv 1) pa_nil))) pa_nil)))) pa_nil)))))) (pss_one (ps_ret (pv 2))))), ?_⟩
  · obtain ⟨x, m, piece, b, t, w, us, _, rfl, _, _, a, _⟩ := h
    rw [List.length_cons, a.len]
    rfl
  rintro vs H Q ⟨n, m, piece, b, t, w0, us, rfl, rfl, ⟨hm, hpc, ht, hn⟩, sa, a, k⟩
  have hm : OkM m := hm
  have ht : StOk m.sizes t := ht
  have hpc : PieceOk m piece := hpc
  have hn : n < t.sks.length := hn
  have k : ∀ v w2, LeB b.B w0 w2 → SearchAt K m piece b (rowF m piece t n).1 w2 → (sRow (rowF m piece t n).2).P w2.G v → Q v w2.H := k
  have o : EnvOk w0.G (L2.start N_Search_row (.ref b.p :: us)) [some (sRef b.p), some (sNat n), none, none, none] := args_start (ss := [sRef b.p, sNat n]) (.cons rfl a)
  have plen : ∀ q ∈ piece, q.length = m.sizes.length := fun q hq => (hpc.2 q hq).1
  have hgetD : t.sks.getD n [] = t.sks[n] := by rw [List.getD_eq_getElem?_getD, List.getElem?_eq_getElem hn]; rfl
  have okn : OkSk m.sizes (t.sks.getD n []) := by rw [hgetD]; exact ht.ok _ (List.getElem_mem hn)
  refine q_setL (R := fun e : List Nat => sLst (fun n : Nat => sNat n) e) (xs := []) (w0 := w0) .refl o el_nil fun l σ1 w1 l1 ow1 o1 nl => ?_
  have own1 : Own .nil l (fun e : List Nat => sLst (fun n : Nat => sNat n) e) [] w1 := ⟨nil_le, rfl, ow1.g, ow1.at_⟩
  have nB : ∀ a ∈ b.B, a ∉ [l] := sa.new nl
  have nB2 : l ∉ b.B := fun m => nB l m (List.mem_singleton.mpr rfl)
  have sa1 := sa.up l1
  have o1 : EnvOk w1.G σ1 [some (sRef b.p), some (sNat n), some (sRef l), none, none] := o1
  have hd := hm.deeds
  refine q_for o1 (i_range1 (n := m.deeds.length) (by omega) (e_lenT (R := sDeed) (e_fld T.c_Machine T.a_Machine_deeds rfl (e_fldOw sa1.ins T.c_Search T.a_Search__machine rfl (e_var rfl))))) (fun _ => b_name)
    (fun _ => [some (sRef b.p), some (sNat n), some (sRef l), none, none])
    (fun i w2 => LeB b.B w0 w2 ∧ SearchAt K m piece b (rowGo m piece n t 0 (m.deeds.take i)).1 w2 ∧ Own .nil l (fun e : List Nat => sLst (fun n : Nat => sNat n) e) (rowGo m piece n t 0 (m.deeds.take i)).2 w2)
    (fun _ _ _ h l => ⟨h.1.trans (LeB.up l), h.2.1.up l, h.2.2.up l⟩) (fun w2 l2 o2 => ⟨o2, LeB.up (l1.trans l2), sa1.up l2, own1.up l2⟩) (fun i d σ2 w2 hd2 o2 h2 N hN => ?_) (fun σ2 w2 o2 h2 => ?_)
  · obtain ⟨l2, sa2, ow2⟩ := h2
    have hi : i < m.deeds.length := by
      have := (List.getElem?_eq_some_iff.mp hd2).1
      rw [List.length_range] at this
      exact this
    have ed : d = i := by
      have z := (List.getElem?_eq_some_iff.mp hd2).2
      rw [List.getElem_range] at z
      exact z.symm
    subst ed
    have o2 : EnvOk w2.G σ2 [some (sRef b.p), some (sNat n), some (sRef l), some (sNat d), none] := o2
    have hde : m.deeds[d]? = some m.deeds[d] := List.getElem?_eq_getElem hi
    have etk : m.deeds.take (d + 1) = m.deeds.take d ++ [m.deeds[d]] := by rw [List.take_add_one, hde]; rfl
    have lent : (m.deeds.take d).length = d := by rw [List.length_take]; omega
    obtain ⟨st2, r, er⟩ := rowGo_ok plen (m.deeds.take d) t 0 ht okn hn
    have esn := rowGo_snoc (m := m) (piece := piece) (number := n) (m.deeds.take d) t 0 m.deeds[d]
    rw [← etk, lent, Nat.zero_add] at esn
    have eg : (rowGo m piece n t 0 (m.deeds.take d)).1.sks.getD n [] = t.sks.getD n [] := by
      rw [er, List.getD_eq_getElem?_getD, List.getD_eq_getElem?_getD, List.getElem?_append_left hn]
    have esk : (rowGo m piece n t 0 (m.deeds.take d)).1.sks[n]? = some (t.sks.getD n []) := by
      rw [er, List.getElem?_append_left hn, hgetD]
      exact List.getElem?_eq_getElem hn
    generalize hg : rowGo m piece n t 0 (m.deeds.take d) = g2 at *
    refine q_set (s := sOpt sNs (beforeF m.sizes (t.sks.getD n []) m.deeds[d])) o2 (e_call (m, t.sks.getD n [], d, m.deeds[d]) ⟨hm, okn.1, hde⟩ (ea_cons (e_fldOw sa2.ins T.c_Search T.a_Search__machine rfl (e_var rfl))
      (ea_cons (e_ixOw (R := sNs) (i := n) sa2.sk esk (e_fldOw sa2.ins T.c_Search T.a_Search_sketches rfl (e_var rfl)) (e_var rfl)) (ea_cons (e_var rfl) ea_nil)))) fun σ3 w3 l3 o3 => ?_
    have o3 : EnvOk w3.G σ3 [some (sRef b.p), some (sNat n), some (sRef l), some (sNat d), some (sOpt sNs (beforeF m.sizes (t.sks.getD n []) m.deeds[d]))] := o3
    have ow3 := ow2.up l3
    have sa3 := sa2.up l3
    have hz : g2.2.length ≤ 1000000 := by
      rw [← hg, rowGo_few, lent]
      omega
    cases eb : beforeF m.sizes (t.sks.getD n []) m.deeds[d] with
    | none =>
      rw [eb] at o3
      have e1 := rowGo_none (m := m) (piece := piece) (number := n) (k := d) (t := g2.1) (r := []) (e := m.deeds[d]) (by rw [eg]; exact eb)
      rw [e1] at esn
      refine q_appX (x := []) (Post := fun u1 u2 => LeB b.B u1 u2 ∧ SearchAt K m piece b g2.1 u2) o3 ow3 hz (e_var rfl) (fun u1 lu ou => ?_) fun u1 u2 u3 lu ⟨lp, sp⟩ l4 ow4 => ?_
      · refine x_if (b := true) ou (t_test (e_isN true (fun G v p => by rw [show v = V.non from p]; rfl) (e_var (s := sNon) rfl))) (fun _ u2 lu2 => ?_) (fun q => nomatch q)
        exact (R40.E.x (ou.up lu2) el_nil.e).imp fun v u3 ⟨l5, p5⟩ => ⟨⟨LeB.up (lu2.trans l5), sa3.up (lu.trans (lu2.trans l5))⟩, p5, ow3.up (lu.trans (lu2.trans l5))⟩
      · have oo : EnvOk u3.G σ3 [some (sRef b.p), some (sNat n), some (sRef l), some (sNat d), some (sOpt sNs (none : Option (List Nat)))] := ((o3.up lu).up lp).up l4
        refine hN σ3 u3 _ oo (fun o => (o.drop 3).drop 4) ⟨?_, ?_, ?_⟩ fun a u z => l4.g a u (lp.g a u (lu.g a u (l3.g a u z)))
        · exact (l2.trans ((LeB.up (l3.trans lu)).trans lp)).thenNew l4 nl
        · rw [esn]
          exact sp.upB l4 nB
        · rw [esn]
          exact ow4
    | some bf =>
      rw [eb] at o3
      have o3 : EnvOk w3.G σ3 [some (sRef b.p), some (sNat n), some (sRef l), some (sNat d), some (sNs bf)] := o3
      have e1 := rowGo_some (m := m) (piece := piece) (number := n) (k := d) (t := g2.1) (r := []) (e := m.deeds[d]) (b := bf) (by rw [eg]; exact eb)
      rw [e1] at esn
      refine q_appX (x := (placesF m.first piece g2.1 bf (some (d, n))).2) (Post := fun u1 u2 => LeB b.B u1 u2 ∧ SearchAt K m piece b (placesF m.first piece g2.1 bf (some (d, n))).1 u2) o3 ow3 hz (e_var rfl) (fun u1 lu ou => ?_) fun u1 u2 u3 lu ⟨lp, sp⟩ l4 ow4 => ?_
      · refine x_if (b := false) ou (t_test (e_isN false (fun G v p => by rw [decide_eq_false (tup_ne bf G v p)]) (e_var (s := sNs bf) rfl))) (fun q => nomatch q) (fun _ u2 lu2 => ?_)
        refine (x_meth (bf, some (d, n)) (ou.up lu2) (sa3.up (lu.trans lu2)) ⟨hm, hpc, before_ok okn eb, st2⟩ rfl (e_var rfl) (ea_cons (e_var rfl) (ea_cons (e_tup2 (s := sNat d) (t := sNat n) (e_var rfl) (e_var rfl)) ea_nil))).imp fun v u3 ⟨l5, s5, p5⟩ => ⟨⟨(LeB.up lu2).trans l5, s5⟩, p5, (ow3.up (lu.trans lu2)).nilB l5 nB2⟩
      · have oo : EnvOk u3.G σ3 [some (sRef b.p), some (sNat n), some (sRef l), some (sNat d), some (sNs bf)] := ((o3.up lu).up lp).up l4
        refine hN σ3 u3 _ oo (fun o => (o.drop 3).drop 4) ⟨?_, ?_, ?_⟩ fun a u z => l4.g a u (lp.g a u (lu.g a u (l3.g a u z)))
        · exact (l2.trans ((LeB.up (l3.trans lu)).trans lp)).thenNew l4 nl
        · rw [esn]
          exact sp.upB l4 nB
        · rw [esn]
          exact ow4
  · obtain ⟨l2, sa2, ow2⟩ := h2
    rw [List.length_range, List.take_length] at sa2 ow2
    refine e_var (s := sRef l) (i := 2) rfl _ w2 .refl o2 _ fun v w3 l3 p => ?_
    cases p
    have ow3 := ow2.up l3
    obtain ⟨vs, a3, r3⟩ := ow3.at_
    exact k (.ref l) (w3.frz l (.lst vs) a3) ((l2.trans (LeB.up l3)).frz ow3.g nl) ((sa2.up l3).upB (Wd.frz_leB ow3.g (List.mem_singleton.mpr rfl)) nB) ⟨l, vs, rfl, upd_same, r3.mono fun c u e => keepU (neN e ow3.g) e⟩
end
end R40

set_option linter.all false
set_option maxHeartbeats 4000000
/-! What a search keeps: origins, entries. -/
namespace M40
abbrev partsF (z : List Nat) (piece : List (List Nat)) (s : List Nat) (e : Deed) : List (List Nat) := match beforeF z s e with
  | none => []
  | some b => withoutF b piece
/-- entry by entry, each part lies in its sketch -/
structure Cov (sks : List (List Nat)) (entry : List Nat) (parts : List (List Nat)) : Prop where
  len : entry.length = parts.length
  at_ : ∀ (i k : Nat) (p : List Nat), entry[i]? = some k → parts[i]? = some p → ∃ s, sks[k]? = some s ∧ incF p s = true
theorem Cov.nil {sks : List (List Nat)} : Cov sks [] [] := ⟨rfl, fun i k p h => by simp at h⟩
theorem app_at {α : Type} {l r : List α} {i : Nat} {x : α} (h : l[i]? = some x) : (l ++ r)[i]? = some x := by
  rw [List.getElem?_append_left (List.getElem?_eq_some_iff.mp h).1]
  exact h
theorem Cov.grow {sks r : List (List Nat)} {entry : List Nat} {parts : List (List Nat)} (h : Cov sks entry parts) : Cov (sks ++ r) entry parts :=
  ⟨h.len, fun i k p a b => let ⟨s, q1, q2⟩ := h.at_ i k p a b; ⟨s, app_at q1, q2⟩⟩
theorem Cov.cons {sks : List (List Nat)} {k : Nat} {p s : List Nat} {entry : List Nat} {parts : List (List Nat)} (h : Cov sks entry parts) (h1 : sks[k]? = some s) (h2 : incF p s = true) : Cov sks (k :: entry) (p :: parts) :=
  ⟨congrArg (· + 1) h.len, fun i j q a b => by
    cases i with
    | zero =>
      cases a
      cases b
      exact ⟨s, h1, h2⟩
    | succ n => exact h.at_ n j q a b⟩
structure SInv (m : Mach) (piece : List (List Nat)) (Rt : Nat → List Nat → Prop) (t : SS) : Prop where
  st : StOk m.sizes t
  src : ∀ (n d j : Nat), t.org[n]? = some (some (d, j)) → j < n ∧ ∃ e sj sn b, m.deeds[d]? = some e ∧ t.sks[j]? = some sj ∧ t.sks[n]? = some sn ∧ beforeF m.sizes sj e = some b ∧ sn ∈ withoutF b piece
  root : ∀ n : Nat, t.org[n]? = some none → ∃ s, t.sks[n]? = some s ∧ Rt n s
  found : ∀ f : Nat, t.found = some f → ∃ s c, t.sks[f]? = some s ∧ meetF s m.first = some c
  nof : t.found = none → ∀ s ∈ t.sks, meetF s m.first = none
theorem SInv.start {m : Mach} {piece : List (List Nat)} {Rt : Nat → List Nat → Prop} : SInv m piece Rt SS.none :=
  ⟨StOk.none, fun n d j h => by simp [SS.none] at h, fun n h => by simp [SS.none] at h, fun f h => by simp [SS.none] at h, fun _ s h => by simp [SS.none] at h⟩
/-- where a new sketch may come from -/
def From (m : Mach) (piece : List (List Nat)) (Rt : Nat → List Nat → Prop) (sks : List (List Nat)) (s : List Nat) : Option (Nat × Nat) → Prop
  | .none => Rt sks.length s
  | .some (d, j) => ∃ e sj b, m.deeds[d]? = some e ∧ sks[j]? = some sj ∧ beforeF m.sizes sj e = some b ∧ s ∈ withoutF b piece
theorem place_cases {first s : List Nat} {t : SS} {o : Option (Nat × Nat)} : (∃ k s2, placeF first t s o = (t, k) ∧ t.sks[k]? = some s2 ∧ incF s s2 = true) ∨
    ((∀ x ∈ t.sks, incF s x = false) ∧ ∃ f, placeF first t s o = (⟨t.sks ++ [s], t.org ++ [o], f⟩, t.sks.length) ∧ (∀ g, t.found = some g → f = some g) ∧ (t.found = none → (meetF s first).isSome = true → f = some t.sks.length) ∧ (t.found = none → (meetF s first).isSome = false → f = none)) := by
  unfold placeF
  cases h : t.sks.findIdx? (incF s) with
  | some k =>
    rw [List.findIdx?_eq_some_iff_getElem] at h
    obtain ⟨hk, hi, _⟩ := h
    exact .inl ⟨k, t.sks[k], rfl, List.getElem?_eq_getElem hk, hi⟩
  | none =>
    rw [List.findIdx?_eq_none_iff] at h
    refine .inr ⟨h, _, rfl, fun g hg => by rw [hg], fun hn hm => by rw [hn]; exact if_pos hm, fun hn hm => by rw [hn]; exact if_neg (by rw [hm]; decide)⟩
theorem snoc_at {α : Type} {l : List α} {x y : α} {n : Nat} (h : (l ++ [x])[n]? = some y) : l[n]? = some y ∨ n = l.length ∧ y = x := by
  by_cases hn : n < l.length
  · rw [List.getElem?_append_left hn] at h
    exact .inl h
  · rw [List.getElem?_append_right (by omega)] at h
    cases e : n - l.length with
    | zero =>
      rw [e] at h
      exact .inr ⟨by omega, (Option.some.inj h).symm⟩
    | succ k =>
      rw [e] at h
      simp at h
theorem snoc_last {α : Type} {l : List α} {x : α} : (l ++ [x])[l.length]? = some x := by
  rw [List.getElem?_append_right (Nat.le_refl _), Nat.sub_self]
  rfl
/-- what placing does -/
structure Grown (t t2 : SS) : Prop where
  sks : ∃ r, t2.sks = t.sks ++ r
  org : ∃ r, t2.org = t.org ++ r
theorem Grown.refl {t : SS} : Grown t t := ⟨⟨[], (List.append_nil _).symm⟩, ⟨[], (List.append_nil _).symm⟩⟩
theorem Grown.trans {a b c : SS} (h : Grown a b) (k : Grown b c) : Grown a c := by
  obtain ⟨r1, e1⟩ := h.sks
  obtain ⟨r2, e2⟩ := k.sks
  obtain ⟨r3, e3⟩ := h.org
  obtain ⟨r4, e4⟩ := k.org
  exact ⟨⟨r1 ++ r2, by rw [e2, e1, List.append_assoc]⟩, ⟨r3 ++ r4, by rw [e4, e3, List.append_assoc]⟩⟩
theorem Grown.at_ {t t2 : SS} (h : Grown t t2) {n : Nat} {s : List Nat} (e : t.sks[n]? = some s) : t2.sks[n]? = some s := by
  obtain ⟨r, q⟩ := h.sks
  rw [q]
  exact app_at e
theorem Grown.le {t t2 : SS} (h : Grown t t2) : t.sks.length ≤ t2.sks.length := by
  obtain ⟨r, q⟩ := h.sks
  rw [q, List.length_append]
  omega
theorem Grown.cov {t t2 : SS} (h : Grown t t2) {entry : List Nat} {parts : List (List Nat)} (c : Cov t.sks entry parts) : Cov t2.sks entry parts := by
  obtain ⟨r, q⟩ := h.sks
  rw [q]
  exact c.grow
theorem place_grown {first s : List Nat} {t : SS} {o : Option (Nat × Nat)} : Grown t (placeF first t s o).1 := by
  rcases place_cases (first := first) (s := s) (t := t) (o := o) with ⟨k, s2, e, _⟩ | ⟨_, f, e, _⟩
  · rw [e]
    exact .refl
  · rw [e]
    exact ⟨⟨[s], rfl⟩, ⟨[o], rfl⟩⟩
theorem place_at {first s : List Nat} {t : SS} {o : Option (Nat × Nat)} : ∃ s2, (placeF first t s o).1.sks[(placeF first t s o).2]? = some s2 ∧ incF s s2 = true := by
  rcases place_cases (first := first) (s := s) (t := t) (o := o) with ⟨k, s2, e, h1, h2⟩ | ⟨_, f, e, _⟩
  · rw [e]
    exact ⟨s2, h1, h2⟩
  · rw [e]
    exact ⟨s, snoc_last, inc_self⟩
theorem SInv.place {m : Mach} {piece : List (List Nat)} {Rt : Nat → List Nat → Prop} {t : SS} {s : List Nat} {o : Option (Nat × Nat)} (h : SInv m piece Rt t) (hs : OkSk m.sizes s) (hf : From m piece Rt t.sks s o) : SInv m piece Rt (placeF m.first t s o).1 := by
  rcases place_cases (first := m.first) (s := s) (t := t) (o := o) with ⟨k, s2, e, _⟩ | ⟨hn, f, e, f1, f2, f3⟩
  · rw [e]
    exact h
  · have st2 := place_ok (first := m.first) (o := o) h.st hs
    rw [e] at st2 ⊢
    refine ⟨st2, fun n d j q => ?_, fun n q => ?_, fun g hg => ?_, fun hg x hx => ?_⟩
    · rcases snoc_at q with q | ⟨e1, e2⟩
      · obtain ⟨a, ee, sj, sn, b, a1, a2, a3, a4, a5⟩ := h.src n d j q
        exact ⟨a, ee, sj, sn, b, a1, app_at a2, app_at a3, a4, a5⟩
      · subst e1
        subst e2
        obtain ⟨ee, sj, b, a1, a2, a4, a5⟩ := hf
        refine ⟨by rw [h.st.len]; exact (List.getElem?_eq_some_iff.mp a2).1, ee, sj, s, b, a1, app_at a2, by rw [h.st.len]; exact snoc_last, a4, a5⟩
    · rcases snoc_at q with q | ⟨e1, e2⟩
      · obtain ⟨s2, a1, a2⟩ := h.root n q
        exact ⟨s2, app_at a1, a2⟩
      · subst e1
        subst e2
        exact ⟨s, by rw [h.st.len]; exact snoc_last, by rw [h.st.len]; exact hf⟩
    · cases ef : t.found with
      | some g2 =>
        have e2 : some g = some g2 := hg.symm.trans (f1 g2 ef)
        cases e2
        obtain ⟨s2, c, a1, a2⟩ := h.found g ef
        exact ⟨s2, c, app_at a1, a2⟩
      | none =>
        cases em : meetF s m.first with
        | none =>
          have e2 := f3 ef (by rw [em]; rfl)
          have hg : f = some g := hg
          rw [e2] at hg
          cases hg
        | some c =>
          have e2 := f2 ef (by rw [em]; rfl)
          have hg : f = some g := hg
          rw [e2] at hg
          cases hg
          exact ⟨s, c, snoc_last, em⟩
    · have hg : f = none := hg
      cases ef : t.found with
      | some g2 =>
        have := f1 g2 ef
        rw [hg] at this
        cases this
      | none =>
        rcases List.mem_append.mp hx with hx | hx
        · exact h.nof ef x hx
        · rw [List.mem_singleton.mp hx]
          cases em : meetF s m.first with
          | none => rfl
          | some c =>
            have e2 := f2 ef (by rw [em]; rfl)
            rw [hg] at e2
            cases e2
theorem placeAll_all {m : Mach} {piece : List (List Nat)} {Rt : Nat → List Nat → Prop} {o : Option (Nat × Nat)} : ∀ (l : List (List Nat)) (t : SS), SInv m piece Rt t → (∀ s ∈ l, OkSk m.sizes s) → (∀ t2, Grown t t2 → SInv m piece Rt t2 → ∀ s ∈ l, From m piece Rt t2.sks s o) →
    SInv m piece Rt (placeAll m.first o t l).1 ∧ Grown t (placeAll m.first o t l).1 ∧ Cov (placeAll m.first o t l).1.sks (placeAll m.first o t l).2 l
  | [], t, h, _, _ => ⟨h, .refl, Cov.nil⟩
  | s :: r, t, h, hs, hf => by
    have h1 := h.place (o := o) (hs s List.mem_cons_self) (hf t .refl h s List.mem_cons_self)
    have g1 : Grown t (placeF m.first t s o).1 := place_grown
    obtain ⟨a, b, c⟩ := placeAll_all r _ h1 (fun x hx => hs x (List.mem_cons_of_mem _ hx)) fun t2 g2 h2 x hx => hf t2 (g1.trans g2) h2 x (List.mem_cons_of_mem _ hx)
    obtain ⟨s2, e1, e2⟩ := place_at (first := m.first) (s := s) (t := t) (o := o)
    exact ⟨a, g1.trans b, c.cons (b.at_ e1) e2⟩
theorem SInv.mono {m : Mach} {piece : List (List Nat)} {Rt Rt2 : Nat → List Nat → Prop} {t : SS} (h : SInv m piece Rt t) (k : ∀ n s, Rt n s → Rt2 n s) : SInv m piece Rt2 t :=
  ⟨h.st, h.src, fun n q => let ⟨s, a, b⟩ := h.root n q; ⟨s, a, k n s b⟩, h.found, h.nof⟩
/-- one deed of a row -/
theorem deed_all {m : Mach} {piece : List (List Nat)} {Rt : Nat → List Nat → Prop} {t : SS} {n d : Nat} {s b : List Nat} {e : Deed} (hp : ∀ q ∈ piece, q.length = m.sizes.length) (h : SInv m piece Rt t) (hn : t.sks[n]? = some s) (he : m.deeds[d]? = some e) (hb : beforeF m.sizes s e = some b) :
    SInv m piece Rt (placesF m.first piece t b (some (d, n))).1 ∧ Grown t (placesF m.first piece t b (some (d, n))).1 ∧ Cov (placesF m.first piece t b (some (d, n))).1.sks (placesF m.first piece t b (some (d, n))).2 (withoutF b piece) := by
  have okb := before_ok (h.st.ok s (List.mem_of_getElem? hn)) hb
  exact placeAll_all _ t h (without_ok okb hp) fun t2 g2 _ x hx => ⟨e, s, b, he, g2.at_ hn, hb, hx⟩
structure RowOk (m : Mach) (piece sks : List (List Nat)) (s : List Nat) (row : List (List Nat)) : Prop where
  len : row.length = m.deeds.length
  at_ : ∀ (d : Nat) (e : Deed) (entry : List Nat), m.deeds[d]? = some e → row[d]? = some entry → Cov sks entry (partsF m.sizes piece s e)
theorem RowOk.grow {m : Mach} {piece : List (List Nat)} {t t2 : SS} {s : List Nat} {row : List (List Nat)} (g : Grown t t2) (h : RowOk m piece t.sks s row) : RowOk m piece t2.sks s row :=
  ⟨h.len, fun d e x a b => g.cov (h.at_ d e x a b)⟩
theorem rowGo_all {m : Mach} {piece : List (List Nat)} {Rt : Nat → List Nat → Prop} (hp : ∀ q ∈ piece, q.length = m.sizes.length) {n : Nat} {s : List Nat} : ∀ (l : List Deed) (t : SS) (k : Nat), SInv m piece Rt t → t.sks[n]? = some s → (∀ i e, l[i]? = some e → m.deeds[k + i]? = some e) →
    SInv m piece Rt (rowGo m piece n t k l).1 ∧ Grown t (rowGo m piece n t k l).1 ∧ (rowGo m piece n t k l).2.length = l.length ∧ ∀ (i : Nat) (e : Deed) (entry : List Nat), l[i]? = some e → (rowGo m piece n t k l).2[i]? = some entry → Cov (rowGo m piece n t k l).1.sks entry (partsF m.sizes piece s e)
  | [], t, k, h, _, _ => ⟨h, .refl, rfl, fun i e x a => by simp at a⟩
  | e :: r, t, k, h, hn, hd => by
    have eg : t.sks.getD n [] = s := by rw [List.getD_eq_getElem?_getD, hn]; rfl
    have hd' : ∀ i e', r[i]? = some e' → m.deeds[k + 1 + i]? = some e' := fun i e' q => by
      have := hd (i + 1) e' q
      rw [show k + 1 + i = k + (i + 1) by omega]
      exact this
    cases hb : beforeF m.sizes s e with
    | none =>
      rw [rowGo_none (by rw [eg]; exact hb)]
      obtain ⟨a, b, c, d⟩ := rowGo_all hp r t (k + 1) h hn hd'
      refine ⟨a, b, congrArg (· + 1) c, fun i e' x q1 q2 => ?_⟩
      cases i with
      | zero =>
        cases q1
        cases q2
        unfold partsF
        rw [hb]
        exact Cov.nil
      | succ i => exact d i e' x q1 q2
    | some bf =>
      rw [rowGo_some (by rw [eg]; exact hb)]
      obtain ⟨h1, g1, c1⟩ := deed_all hp h hn (hd 0 e rfl) hb
      rw [Nat.add_zero] at h1 g1 c1
      obtain ⟨a, b, c, d⟩ := rowGo_all hp r _ (k + 1) h1 (g1.at_ hn) hd'
      refine ⟨a, g1.trans b, congrArg (· + 1) c, fun i e' x q1 q2 => ?_⟩
      cases i with
      | zero =>
        cases q1
        cases q2
        unfold partsF
        rw [hb]
        exact b.cov c1
      | succ i => exact d i e' x q1 q2
theorem row_all {m : Mach} {piece : List (List Nat)} {Rt : Nat → List Nat → Prop} (hp : ∀ q ∈ piece, q.length = m.sizes.length) {n : Nat} {s : List Nat} {t : SS} (h : SInv m piece Rt t) (hn : t.sks[n]? = some s) :
    SInv m piece Rt (rowF m piece t n).1 ∧ Grown t (rowF m piece t n).1 ∧ RowOk m piece (rowF m piece t n).1.sks s (rowF m piece t n).2 := by
  obtain ⟨a, b, c, d⟩ := rowGo_all hp m.deeds t 0 h hn fun i e q => by rw [Nat.zero_add]; exact q
  exact ⟨a, b, ⟨c, fun i e x q1 q2 => d i e x q1 q2⟩⟩
/-- rows, one after another -/
inductive RowsTo (m : Mach) (piece : List (List Nat)) (t0 : SS) : List (List (List Nat)) → SS → Prop where
  | nil : RowsTo m piece t0 [] t0
  | snoc {rows : List (List (List Nat))} {t : SS} : RowsTo m piece t0 rows t → rows.length < t.sks.length → RowsTo m piece t0 (rows ++ [(rowF m piece t rows.length).2]) (rowF m piece t rows.length).1
theorem rows_all {m : Mach} {piece : List (List Nat)} {Rt : Nat → List Nat → Prop} (hp : ∀ q ∈ piece, q.length = m.sizes.length) {t0 t : SS} {rows : List (List (List Nat))} (h0 : SInv m piece Rt t0) (h : RowsTo m piece t0 rows t) :
    SInv m piece Rt t ∧ Grown t0 t ∧ rows.length ≤ t.sks.length ∧ ∀ (n : Nat) (s : List Nat) (row : List (List Nat)), rows[n]? = some row → t.sks[n]? = some s → RowOk m piece t.sks s row := by
  induction h with
  | nil => exact ⟨h0, .refl, Nat.zero_le _, fun n s row h => by simp at h⟩
  | @snoc rows t hr hl ih =>
    obtain ⟨a, b, c, d⟩ := ih
    obtain ⟨s0, hs0⟩ : ∃ s0, t.sks[rows.length]? = some s0 := ⟨_, List.getElem?_eq_getElem hl⟩
    obtain ⟨a1, b1, c1⟩ := row_all hp a hs0
    refine ⟨a1, b.trans b1, by rw [List.length_append]; have := b1.le; show rows.length + 1 ≤ _; omega, fun n s row q1 q2 => ?_⟩
    rcases snoc_at q1 with q1 | ⟨e1, e2⟩
    · have hn : n < t.sks.length := Nat.lt_of_lt_of_le (List.getElem?_eq_some_iff.mp q1).1 c
      have q3 : t.sks[n]? = some s := by
        have := b1.at_ (List.getElem?_eq_getElem hn)
        rw [q2] at this
        rw [List.getElem?_eq_getElem hn, this]
      exact (d n s row q1 q3).grow b1
    · subst e1
      subst e2
      have := b1.at_ hs0
      rw [q2] at this
      cases this
      exact c1
/-- the way back along origins -/
inductive WayF (org : List (Option (Nat × Nat))) : Nat → List Nat → Nat → Prop where
  | done {n : Nat} : org[n]? = some none → WayF org n [] n
  | step {n d j e : Nat} {ds : List Nat} : org[n]? = some (some (d, j)) → WayF org j ds e → WayF org n (d :: ds) e
theorem WayF.det {org : List (Option (Nat × Nat))} {n e e2 : Nat} {ds ds2 : List Nat} (h : WayF org n ds e) (k : WayF org n ds2 e2) : ds = ds2 ∧ e = e2 := by
  induction h generalizing ds2 e2 with
  | done h =>
    cases k with
    | done _ => exact ⟨rfl, rfl⟩
    | step q _ => rw [h] at q; cases q
  | step h _ ih =>
    cases k with
    | done q => rw [h] at q; cases q
    | step q k =>
      rw [h] at q
      cases q
      obtain ⟨a, b⟩ := ih k
      exact ⟨by rw [a], b⟩
/-- the links -/
def linkStep (first earlier : List Nat) (x : SS × List (List Nat) × List Nat) (p : Nat × List Nat) : SS × List (List Nat) × List Nat := match meetF p.2 earlier with
  | none => (x.1, x.2.1 ++ [[]], x.2.2 ++ List.replicate (x.1.sks.length - x.2.2.length) p.1)
  | some both => ((placeF first x.1 both none).1, x.2.1 ++ [[(placeF first x.1 both none).2]], x.2.2 ++ List.replicate ((placeF first x.1 both none).1.sks.length - x.2.2.length) p.1)
def numbered (l : List (List Nat)) : List (Nat × List Nat) := (List.range l.length).zip l
def linksF (first earlier : List Nat) (sks : List (List Nat)) : SS × List (List Nat) × List Nat := (numbered sks).foldl (linkStep first earlier) (SS.none, [], [])
/-- whose root -/
def Own (sks : List (List Nat)) (earlier owners : List Nat) (n : Nat) (s : List Nat) : Prop := ∃ i s0, owners[n]? = some i ∧ sks[i]? = some s0 ∧ meetF s0 earlier = some s
abbrev metF (earlier s : List Nat) : List (List Nat) := match meetF s earlier with
  | none => []
  | some b => [b]
theorem links_all {m : Mach} {earlier : List Nat} {sks : List (List Nat)} (he : earlier.length = m.sizes.length) (hs : ∀ s ∈ sks, OkSk m.sizes s) : ∀ i, i ≤ sks.length → ∀ x, x = ((numbered sks).take i).foldl (linkStep m.first earlier) (SS.none, [], []) →
    SInv m [] (Own sks earlier x.2.2) x.1 ∧ x.2.2.length = x.1.sks.length ∧ x.2.1.length = i ∧ (∀ (n : Nat) (k : Option (Nat × Nat)), x.1.org[n]? = some k → k = none) ∧ ∀ (n : Nat) (s entry : List Nat), n < i → sks[n]? = some s → x.2.1[n]? = some entry → Cov x.1.sks entry (metF earlier s)
  | 0, _, x, hx => by
    subst hx
    exact ⟨SInv.start, rfl, rfl, fun n k h => by simp [SS.none] at h, fun n s entry h => absurd h (Nat.not_lt_zero n)⟩
  | i + 1, hi, x, hx => by
    obtain ⟨a, b, c, d, f⟩ := links_all he hs i (by omega) _ rfl
    have hnum : (numbered sks)[i]? = some (i, sks[i]) := by
      unfold numbered
      rw [List.getElem?_zip_eq_some]
      exact ⟨by rw [List.getElem?_range (by omega)], List.getElem?_eq_getElem (by omega)⟩
    rw [List.take_add_one, hnum, List.foldl_append] at hx
    generalize ((numbered sks).take i).foldl (linkStep m.first earlier) (SS.none, [], []) = y at *
    have hx : x = linkStep m.first earlier y (i, sks[i]) := hx
    have hsi : sks[i]? = some sks[i] := List.getElem?_eq_getElem (by omega)
    have grow : ∀ (r : List Nat) n s, Own sks earlier y.2.2 n s → Own sks earlier (y.2.2 ++ r) n s := fun r n s ⟨i, s0, q1, q2⟩ => ⟨i, s0, app_at q1, q2⟩
    cases em : meetF sks[i] earlier with
    | none =>
      have hx : x = (y.1, y.2.1 ++ [[]], y.2.2 ++ List.replicate (y.1.sks.length - y.2.2.length) i) := by
        rw [hx]
        unfold linkStep
        rw [em]
      subst hx
      refine ⟨a.mono (grow _), ?_, ?_, d, fun n s entry hn q1 q2 => ?_⟩
      · show (y.2.2 ++ List.replicate _ i).length = y.1.sks.length
        rw [List.length_append, List.length_replicate, b]
        omega
      · show (y.2.1 ++ [[]]).length = _
        rw [List.length_append, c]
        rfl
      · rcases snoc_at q2 with q2 | ⟨e1, e2⟩
        · exact f n s entry (by rw [← c]; exact (List.getElem?_eq_some_iff.mp q2).1) q1 q2
        · rw [c] at e1
          subst e1
          subst e2
          rw [hsi] at q1
          cases q1
          unfold metF
          rw [em]
          exact Cov.nil
    | some both =>
      have okb : OkSk m.sizes both := meet_ok (hs _ (List.getElem_mem (by omega))) he em
      have hx : x = ((placeF m.first y.1 both none).1, y.2.1 ++ [[(placeF m.first y.1 both none).2]], y.2.2 ++ List.replicate ((placeF m.first y.1 both none).1.sks.length - y.2.2.length) i) := by
        rw [hx]
        unfold linkStep
        rw [em]
      have g : Grown y.1 (placeF m.first y.1 both none).1 := place_grown
      have hrt : From m [] (Own sks earlier (y.2.2 ++ List.replicate ((placeF m.first y.1 both none).1.sks.length - y.2.2.length) i)) y.1.sks both none ∨ (placeF m.first y.1 both none).1 = y.1 := by
        rcases place_cases (first := m.first) (s := both) (t := y.1) (o := none) with ⟨k, s2, e, _⟩ | ⟨_, ff, e, _⟩
        · rw [e]
          exact .inr rfl
        · refine .inl ⟨i, sks[i], ?_, hsi, em⟩
          rw [e]
          show (y.2.2 ++ List.replicate ((y.1.sks ++ [both]).length - y.2.2.length) i)[y.1.sks.length]? = some i
          rw [List.length_append, b, ← b, List.getElem?_append_right (Nat.le_refl _), Nat.sub_self]
          show (List.replicate (y.2.2.length + 1 - y.2.2.length) i)[0]? = some i
          rw [Nat.add_sub_cancel_left]
          rfl
      subst hx
      refine ⟨?_, ?_, ?_, fun n k q => ?_, fun n s entry hn q1 q2 => ?_⟩
      · rcases hrt with h | h
        · exact (a.mono (grow _)).place okb h
        · show SInv m [] _ (placeF m.first y.1 both none).1
          rw [h]
          exact a.mono (grow _)
      · show (y.2.2 ++ List.replicate _ i).length = _
        have := g.le
        rw [List.length_append, List.length_replicate]
        show _ = (placeF m.first y.1 both none).1.sks.length
        omega
      · show (y.2.1 ++ [_]).length = _
        rw [List.length_append, c]
        rfl
      · have q : (placeF m.first y.1 both none).1.org[n]? = some k := q
        rcases place_cases (first := m.first) (s := both) (t := y.1) (o := none) with ⟨k2, s2, e, _⟩ | ⟨_, ff, e, _⟩
        · rw [e] at q
          exact d n k q
        · rw [e] at q
          rcases snoc_at q with q | ⟨_, e2⟩
          · exact d n k q
          · exact e2
      · rcases snoc_at q2 with q2 | ⟨e1, e2⟩
        · exact g.cov (f n s entry (by rw [← c]; exact (List.getElem?_eq_some_iff.mp q2).1) q1 q2)
        · rw [c] at e1
          subst e1
          subst e2
          rw [hsi] at q1
          cases q1
          unfold metF
          rw [em]
          obtain ⟨s2, h1, h2⟩ := place_at (first := m.first) (s := both) (t := y.1) (o := none)
          exact Cov.nil.cons h1 h2
/-! ### what is told -/
/-- a disk that takes, cell by cell, a value of the set -/
def LeastF (s d : List Nat) : Prop := d.length = s.length ∧ ∀ i, i < s.length → (at0 s i).testBit (at0 d i) = true
inductive Said where
  | told (sks : List (List Nat)) (cover : List Nat) (table : List (List (List Nat))) (links : List (List Nat)) (roots : List (List Nat)) (steps : List (List (List Nat)))
  | not (disk ds : List Nat) (moment : Nat)
/-- the whole: what was searched, what was said -/
inductive Tells (m : Mach) (earlier later : List Nat) (piece : List (List Nat)) : Said → Prop where
  | told {ts tb : SS} {table steps : List (List (List Nat))} : RowsTo m piece (placesF m.first piece SS.none later none).1 table ts → table.length = ts.sks.length → RowsTo m [] (linksF m.first earlier ts.sks).1 steps tb → tb.found = none → steps.length = tb.sks.length →
      Tells m earlier later piece (.told ts.sks (placesF m.first piece SS.none later none).2 table (linksF m.first earlier ts.sks).2.1 tb.sks steps)
  | not {ts tb : SS} {table steps : List (List (List Nat))} {f e owner e2 : Nat} {s c disk ds1 ds2 : List Nat} : RowsTo m piece (placesF m.first piece SS.none later none).1 table ts → table.length = ts.sks.length → RowsTo m [] (linksF m.first earlier ts.sks).1 steps tb →
      tb.found = some f → tb.sks[f]? = some s → meetF s m.first = some c → LeastF c disk → WayF tb.org f ds1 e → (linksF m.first earlier ts.sks).2.2[e]? = some owner → WayF ts.org owner ds2 e2 → Tells m earlier later piece (.not disk (ds1 ++ ds2) ds1.length)
end M40

set_option Elab.async false
set_option linter.all false
set_option maxRecDepth 100000
set_option maxHeartbeats 4000000
/-! Walks: papers and answers are made; the questions' checks. -/
namespace R40
open PySem PySem.Spec PyProof.Rows L2 M40
section
variable {P : Program} {w : World} {K : PySem.W.Frag} {mg : Str → Option Value} {base : Heap}
/-- a paper's slots -/
abbrev sTab (t : List (List (List Nat))) : Slot := sTup (fun r : List (List Nat) => sTup sNs r) t
abbrev sSks (t : List (List Nat)) : Slot := sTup sNs t
abbrev sRows (t : List (List (List Nat))) : Slot := sLst sRow t
abbrev sInts (l : List Nat) : Slot := sLst (fun n : Nat => sNat n) l
structure PapIn where
  sks : List (List Nat)
  cover : List Nat
  table : List (List (List Nat))
/-- the cover comes as a list or as a tuple -/
abbrev sCovIn (b : Bool) (l : List Nat) : Slot := if b then sInts l else sNs l
structure PapOk (x : PapIn) : Prop where
  s : x.sks.length ≤ 100000
  t : x.table.length ≤ 100000
  r : ∀ r ∈ x.table, r.length ≤ 100000
abbrev spPaper (K : PySem.W.Frag) : Sp := spI (He.ga K "Paper") (fun x : PapIn × Bool => PapOk x.1) (fun x => [sPiece x.1.sks, sCovIn x.2 x.1.cover, sRows x.1.table])
  (fun x => [("sketches", sSks x.1.sks), ("cover", sNs x.1.cover), ("table", sTab x.1.table)])
theorem e_tupBoth {Γ : Env} {w : Wd} {te : TE} {K : PySem.W.Frag} {b : Bool} {l : List Nat} (h : E te Γ w (sCovIn b l)) : E (tCB (rTupOf K) (tCons te tNil)) Γ w (sNs l) := by
  cases b with
  | true => exact e_tupL (R := fun n : Nat => sNat n) h
  | false => exact e_tupT (R := fun n : Nat => sNat n) h
theorem ok_Paper_init (T : Txt K mg) : Ok_Paper_init P w K mg base (spPaper K) := by
  refine okI T.f_Paper_init sc_Paper_init (fun _ => rfl) fun cdv A outer s H E hr => ⟨_, (pss_cons (ps_fld (pv 0) (pe_callTy call_tuple_of (by rfl) T.n_tuple (by decide +kernel) (pa_cons (pe_lc (own := [("sketch", 4)]) (g := (gName 4)) (tt := tYes) (te := (tCB (rTupOf K) (tCons (tVar 4) tNil))) rfl sc_Paper_init.nd (pi_list (pv 1)) (blkOk_by (own := [("sketch", 4)]) (N := N_Paper_init) (sc := defScope st_Paper_init) (by decide +kernel)) (fun _ _ _ _ _ => (pg_name (i := 4) sc_Paper_init.nd rfl (Or.inl rfl))) (fun _ _ _ _ _ => pts_nil) (fun _ _ _ _ _ => (pe_callTy call_tuple_of (by rfl) T.n_tuple (by decide +kernel) (pa_cons (pv 4) pa_nil)))) pa_nil)) rfl) (pss_cons (ps_fld (pv 0) (pe_callTy call_tuple_of (by rfl) T.n_tuple (by decide +kernel) (pa_cons (pv 2) pa_nil)) rfl) (pss_one (ps_fld (pv 0) (pe_callTy call_tuple_of (by rfl) T.n_tuple (by decide +kernel) (pa_cons (pe_lc (own := [("row", 5)]) (g := (gName 5)) (tt := tYes) (te := (tCB (rTupOf K) (tCons (tLc (iList K (tVar 5)) (gName 6) tYes (tCB (rTupOf K) (tCons (tVar 6) tNil)) [6]) tNil))) rfl sc_Paper_init.nd (pi_list (pv 3)) (blkOk_by (own := [("row", 5)]) (N := N_Paper_init) (sc := defScope st_Paper_init) (by decide +kernel)) (fun _ _ _ _ _ => (pg_name (i := 5) sc_Paper_init.nd rfl (Or.inl rfl))) (fun _ _ _ _ _ => pts_nil) (fun _ _ _ _ _ => (pe_callTy call_tuple_of (by rfl) T.n_tuple (by decide +kernel) (pa_cons (pe_lc (own := [("entry", 6)]) (g := (gName 6)) (tt := tYes) (te := (tCB (rTupOf K) (tCons (tVar 6) tNil))) rfl sc_Paper_init.nd (pi_list (pv 5)) (blkOk_by (own := [("entry", 6)]) (N := N_Paper_init) (sc := { kind := .function, names := [(".0", .local), ("row", .local), ("tuple", .globalImplicit)], isGenerator := false, isCoroutine := false }) (by decide +kernel)) (fun _ _ _ _ _ => (pg_name (i := 6) sc_Paper_init.nd rfl (Or.inl rfl))) (fun _ _ _ _ _ => pts_nil) (fun _ _ _ _ _ => (pe_callTy call_tuple_of (by rfl) T.n_tuple (by decide +kernel) (pa_cons (pv 6) pa_nil)))) pa_nil)))) pa_nil)) rfl)))), ?_⟩
  rintro ⟨x, cb⟩ w0 p dx σ Q hx o hh hg k
  have hx : PapOk x := hx
  have o : EnvOk w0.G σ [some (sRef p), some (sPiece x.sks), some (sCovIn cb x.cover), some (sRows x.table), none, none, none] := o
  have ow0 := OwnI.start (C := He.ga K "Paper") hh hg
  have h1 := hx.s
  have h2 := hx.t
  refine q_fld o ow0 T.c_Paper T.a_Paper_sketches (by simp) (by decide) (s := sSks x.sks) (e_is (e_tupN (el_lcM (Z := sNs) (fun q => q) (i_list (R := sNs) (xs := x.sks) (e_var rfl)) (by omega) (fun _ => b_name) (by decide) (fun q _ => e_tupT (e_var rfl)))) (by rw [List.map_id'])) (e_var rfl) fun w1 ow1 o1 => ?_
  refine q_fld o1 ow1 T.c_Paper T.a_Paper_cover (by show ¬ ("cover" : Str) ∈ (["sketches"] : List Str); decide +kernel) (by show 1 < 1000; decide) (s := sNs x.cover) (e_tupBoth (b := cb) (e_var rfl)) (e_var rfl) fun w2 ow2 o2 => ?_
  refine s_fld o2 ow2 T.c_Paper T.a_Paper_table (by show ¬ ("table" : Str) ∈ (["sketches", "cover"] : List Str); decide +kernel) (by show 2 < 1000; decide) (s := sTab x.table)
    (e_is (e_tupN (el_lcM (Z := fun r : List (List Nat) => sTup sNs r) (fun q => q) (i_list (R := sRow) (xs := x.table) (e_var rfl)) (by omega) (fun _ => b_name) (by decide)
      (fun r hr => e_is (e_tupN (el_lcM (Z := sNs) (fun q => q) (i_list (R := fun e : List Nat => sInts e) (xs := r) (e_var rfl)) (by have := hx.r r hr; omega) (fun _ => b_name) (by decide) (fun q _ => e_tupL (R := fun n : Nat => sNat n) (e_var rfl)))) (by rw [List.map_id'])))) (by rw [List.map_id'])) (e_var rfl) fun w3 ow3 o3 => ?_
  obtain ⟨vs, a, r⟩ := ow3.at_
  exact k w3 vs ow3.le ow3.g a r
abbrev sPaper (K : PySem.W.Frag) (x : PapIn) : Slot := sObj (He.ga K "Paper") [("sketches", sSks x.sks), ("cover", sNs x.cover), ("table", sTab x.table)]
structure BetIn where
  sks : List (List Nat)
  cover : List Nat
  table : List (List (List Nat))
  links : List (List Nat)
  roots : List (List Nat)
  steps : List (List (List Nat))
abbrev sBetween (K : PySem.W.Frag) (x : BetIn) : Slot := sObj (He.ga K "BetweenPaper") [("sketches", sSks x.sks), ("cover", sNs x.cover), ("table", sTab x.table), ("links", sSks x.links), ("roots", sSks x.roots), ("steps", sTab x.steps)]
structure BetOk (x : BetIn) : Prop where
  a : PapOk ⟨x.sks, x.cover, x.table⟩
  b : PapOk ⟨x.roots, [], x.steps⟩
  l : x.links.length ≤ 100000
abbrev spBetween (K : PySem.W.Frag) : Sp := spI (He.ga K "BetweenPaper") (fun x : BetIn => BetOk x) (fun x => [sPiece x.sks, sInts x.cover, sRows x.table, sRow x.links, sPiece x.roots, sRows x.steps])
  (fun x => [("sketches", sSks x.sks), ("cover", sNs x.cover), ("table", sTab x.table), ("links", sSks x.links), ("roots", sSks x.roots), ("steps", sTab x.steps)])
theorem ok_BetweenPaper_init (T : Txt K mg) : Ok_BetweenPaper_init P w K mg base (spBetween K) := by
  refine okI T.f_BetweenPaper_init sc_BetweenPaper_init (fun _ => rfl) fun cdv A outer s H E hr => ⟨_, (pss_cons (ps_set (i := 7) sc_BetweenPaper_init.nd rfl (Or.inl rfl) (pe_make T.k_Paper (ok_Paper_init T) (hr.mono (by decide)) rfl T.g_Paper T.b_Paper_init .nil pass0 (pa_cons (pv 1) (pa_cons (pv 2) (pa_cons (pv 3) pa_nil))))) (pss_cons (ps_set (i := 8) sc_BetweenPaper_init.nd rfl (Or.inl rfl) (pe_make T.k_Paper (ok_Paper_init T) (hr.mono (by decide)) rfl T.g_Paper T.b_Paper_init .nil pass0 (pa_cons (pv 5) (pa_cons (pe_tup pa_nil) (pa_cons (pv 6) pa_nil))))) (pss_cons (ps_fld (pv 0) (pe_fld (pv 7) rfl) rfl) (pss_cons (ps_fld (pv 0) (pe_fld (pv 7) rfl) rfl) (pss_cons (ps_fld (pv 0) (pe_fld (pv 7) rfl) rfl) (pss_cons (ps_fld (pv 0) (pe_callTy call_tuple_of (by rfl) T.n_tuple (by decide +kernel) (pa_cons (pe_lc (own := [("entry", 9)]) (g := (gName 9)) (tt := tYes) (te := (tCB (rTupOf K) (tCons (tVar 9) tNil))) rfl sc_BetweenPaper_init.nd (pi_list (pv 4)) (blkOk_by (own := [("entry", 9)]) (N := N_BetweenPaper_init) (sc := defScope st_BetweenPaper_init) (by decide +kernel)) (fun _ _ _ _ _ => (pg_name (i := 9) sc_BetweenPaper_init.nd rfl (Or.inl rfl))) (fun _ _ _ _ _ => pts_nil) (fun _ _ _ _ _ => (pe_callTy call_tuple_of (by rfl) T.n_tuple (by decide +kernel) (pa_cons (pv 9) pa_nil)))) pa_nil)) rfl) (pss_cons (ps_fld (pv 0) (pe_fld (pv 8) rfl) rfl) (pss_one (ps_fld (pv 0) (pe_fld (pv 8) rfl) rfl))))))))), ?_⟩
  rintro x w0 p dx σ Q hx o hh hg k
  have hx : BetOk x := hx
  have o : EnvOk w0.G σ [some (sRef p), some (sPiece x.sks), some (sInts x.cover), some (sRows x.table), some (sRow x.links), some (sPiece x.roots), some (sRows x.steps), none, none, none] := o
  have ow0 := OwnI.start (C := He.ga K "BetweenPaper") hh hg
  have h1 := hx.l
  refine q_set (s := sPaper K ⟨x.sks, x.cover, x.table⟩) o (e_make ((⟨x.sks, x.cover, x.table⟩ : PapIn), true) hx.a (ea_cons (e_var rfl) (ea_cons (e_var rfl) (ea_cons (e_var rfl) ea_nil)))) fun σ1 w1 l1 o1 => ?_
  refine q_set (s := sPaper K ⟨x.roots, [], x.steps⟩) o1 (e_make ((⟨x.roots, [], x.steps⟩ : PapIn), false) hx.b (ea_cons (e_var rfl) (ea_cons (e_tup0 (R := fun n : Nat => sNat n)) (ea_cons (e_var rfl) ea_nil)))) fun σ2 w2 l2 o2 => ?_
  have ow2 := ow0.up (l1.trans l2)
  refine q_fld o2 ow2 T.c_BetweenPaper T.a_BetweenPaper_sketches (by simp) (by decide) (s := sSks x.sks) (e_fld T.c_Paper T.a_Paper_sketches rfl (e_var (s := sPaper K ⟨x.sks, x.cover, x.table⟩) rfl)) (e_var rfl) fun w3 ow3 o3 => ?_
  refine q_fld o3 ow3 T.c_BetweenPaper T.a_BetweenPaper_cover (by show ¬ ("cover" : Str) ∈ (["sketches"] : List Str); decide +kernel) (by show 1 < 1000; decide) (s := sNs x.cover) (e_fld T.c_Paper T.a_Paper_cover rfl (e_var (s := sPaper K ⟨x.sks, x.cover, x.table⟩) rfl)) (e_var rfl) fun w4 ow4 o4 => ?_
  refine q_fld o4 ow4 T.c_BetweenPaper T.a_BetweenPaper_table (by show ¬ ("table" : Str) ∈ (["sketches", "cover"] : List Str); decide +kernel) (by show 2 < 1000; decide) (s := sTab x.table) (e_fld T.c_Paper T.a_Paper_table rfl (e_var (s := sPaper K ⟨x.sks, x.cover, x.table⟩) rfl)) (e_var rfl) fun w5 ow5 o5 => ?_
  refine q_fld o5 ow5 T.c_BetweenPaper T.a_BetweenPaper_links (by show ¬ ("links" : Str) ∈ (["sketches", "cover", "table"] : List Str); decide +kernel) (by show 3 < 1000; decide) (s := sSks x.links)
    (e_is (e_tupN (el_lcM (Z := sNs) (fun q => q) (i_list (R := fun e : List Nat => sInts e) (xs := x.links) (e_var rfl)) (by omega) (fun _ => b_name) (by decide) (fun q _ => e_tupL (R := fun n : Nat => sNat n) (e_var rfl)))) (by rw [List.map_id'])) (e_var rfl) fun w6 ow6 o6 => ?_
  refine q_fld o6 ow6 T.c_BetweenPaper T.a_BetweenPaper_roots (by show ¬ ("roots" : Str) ∈ (["sketches", "cover", "table", "links"] : List Str); decide +kernel) (by show 4 < 1000; decide) (s := sSks x.roots) (e_fld T.c_Paper T.a_Paper_sketches rfl (e_var (s := sPaper K ⟨x.roots, [], x.steps⟩) rfl)) (e_var rfl) fun w7 ow7 o7 => ?_
  refine s_fld o7 ow7 T.c_BetweenPaper T.a_BetweenPaper_steps (by show ¬ ("steps" : Str) ∈ (["sketches", "cover", "table", "links", "roots"] : List Str); decide +kernel) (by show 5 < 1000; decide) (s := sTab x.steps) (e_fld T.c_Paper T.a_Paper_table rfl (e_var (s := sPaper K ⟨x.roots, [], x.steps⟩) rfl)) (e_var rfl) fun w8 ow8 o8 => ?_
  obtain ⟨vs, a, r⟩ := ow8.at_
  exact k w8 vs ow8.le ow8.g a r
/-- an answer: with a paper, with a history -/
inductive AnsIn where
  | told (x : BetIn)
  | not (disk ds : List Nat) (moment : Nat)
def AnsIn.args (K : PySem.W.Frag) : AnsIn → List Slot
  | .told x => [sBl true, sBetween K x, sNon, sNon, sNon]
  | .not disk ds moment => [sBl false, sNon, sNs disk, sInts ds, sNat moment]
def AnsIn.fs (K : PySem.W.Frag) : AnsIn → List (Str × Slot)
  | .told x => [("told", sBl true), ("paper", sBetween K x), ("disk", sNon), ("deeds", sNon), ("moment", sNon)]
  | .not disk ds moment => [("told", sBl false), ("paper", sNon), ("disk", sNs disk), ("deeds", sNs ds), ("moment", sNat moment)]
abbrev spAnswer (K : PySem.W.Frag) : Sp := spI (He.ga K "BetweenAnswer") (fun _ : AnsIn => True) (AnsIn.args K) (AnsIn.fs K)
theorem ok_BetweenAnswer_init (T : Txt K mg) : Ok_BetweenAnswer_init P w K mg base (spAnswer K) := by
  refine okI T.f_BetweenAnswer_init sc_BetweenAnswer_init (fun x => by cases x <;> rfl) fun cdv A outer s H E hr => ⟨_, (pss_cons (ps_fld (pv 0) (pv 1) rfl) (pss_cons (ps_fld (pv 0) (pv 2) rfl) (pss_cons (ps_fld (pv 0) (pv 3) rfl) (pss_cons (ps_fld (pv 0) (pe_ifExp (pt_cmpR op_isN (pv 4) pe_non (nomark _)) pe_non (pe_callTy call_tuple_of (by rfl) T.n_tuple (by decide +kernel) (pa_cons (pv 4) pa_nil))) rfl) (pss_one (ps_fld (pv 0) (pv 5) rfl)))))), ?_⟩
  rintro x w0 p dx σ Q _ o hh hg k
  have ow0 := OwnI.start (C := He.ga K "BetweenAnswer") hh hg
  cases x with
  | told x =>
    have o : EnvOk w0.G σ [some (sRef p), some (sBl true), some (sBetween K x), some sNon, some sNon, some sNon] := o
    refine q_fld o ow0 T.c_BetweenAnswer T.a_BetweenAnswer_told (by simp) (by decide) (e_var (s := sBl true) rfl) (e_var rfl) fun w3 ow3 o3 => ?_
    refine q_fld o3 ow3 T.c_BetweenAnswer T.a_BetweenAnswer_paper (by show ¬ ("paper" : Str) ∈ (["told"] : List Str); decide +kernel) (by show 1 < 1000; decide) (e_var (s := sBetween K x) rfl) (e_var rfl) fun w4 ow4 o4 => ?_
    refine q_fld o4 ow4 T.c_BetweenAnswer T.a_BetweenAnswer_disk (by show ¬ ("disk" : Str) ∈ (["told", "paper"] : List Str); decide +kernel) (by show 2 < 1000; decide) (e_var (s := sNon) rfl) (e_var rfl) fun w5 ow5 o5 => ?_
    refine q_fld o5 ow5 T.c_BetweenAnswer T.a_BetweenAnswer_deeds (by show ¬ ("deeds" : Str) ∈ (["told", "paper", "disk"] : List Str); decide +kernel) (by show 3 < 1000; decide) (s := sNon)
      (e_if (b := true) (t_test (e_isN true (fun G v p => by rw [show v = V.non from p]; rfl) (e_var (s := sNon) rfl))) (fun _ => e_c) (fun q => nomatch q)) (e_var rfl) fun w6 ow6 o6 => ?_
    refine s_fld o6 ow6 T.c_BetweenAnswer T.a_BetweenAnswer_moment (by show ¬ ("moment" : Str) ∈ (["told", "paper", "disk", "deeds"] : List Str); decide +kernel) (by show 4 < 1000; decide) (e_var (s := sNon) rfl) (e_var rfl) fun w7 ow7 o7 => ?_
    obtain ⟨vs, a, r⟩ := ow7.at_
    exact k w7 vs ow7.le ow7.g a r
  | not disk ds moment =>
    have o : EnvOk w0.G σ [some (sRef p), some (sBl false), some sNon, some (sNs disk), some (sInts ds), some (sNat moment)] := o
    refine q_fld o ow0 T.c_BetweenAnswer T.a_BetweenAnswer_told (by simp) (by decide) (e_var (s := sBl false) rfl) (e_var rfl) fun w3 ow3 o3 => ?_
    refine q_fld o3 ow3 T.c_BetweenAnswer T.a_BetweenAnswer_paper (by show ¬ ("paper" : Str) ∈ (["told"] : List Str); decide +kernel) (by show 1 < 1000; decide) (e_var (s := sNon) rfl) (e_var rfl) fun w4 ow4 o4 => ?_
    refine q_fld o4 ow4 T.c_BetweenAnswer T.a_BetweenAnswer_disk (by show ¬ ("disk" : Str) ∈ (["told", "paper"] : List Str); decide +kernel) (by show 2 < 1000; decide) (e_var (s := sNs disk) rfl) (e_var rfl) fun w5 ow5 o5 => ?_
    refine q_fld o5 ow5 T.c_BetweenAnswer T.a_BetweenAnswer_deeds (by show ¬ ("deeds" : Str) ∈ (["told", "paper", "disk"] : List Str); decide +kernel) (by show 3 < 1000; decide) (s := sNs ds)
      (e_if (b := false) (t_test (e_isN false (fun G v p => by obtain ⟨a, vs, e, _⟩ := p; rw [e]; rfl) (e_var (s := sInts ds) rfl))) (fun q => nomatch q) (fun _ => e_tupL (R := fun n : Nat => sNat n) (e_var rfl))) (e_var rfl) fun w6 ow6 o6 => ?_
    refine s_fld o6 ow6 T.c_BetweenAnswer T.a_BetweenAnswer_moment (by show ¬ ("moment" : Str) ∈ (["told", "paper", "disk", "deeds"] : List Str); decide +kernel) (by show 4 < 1000; decide) (e_var (s := sNat moment) rfl) (e_var rfl) fun w7 ow7 o7 => ?_
    obtain ⟨vs, a, r⟩ := ow7.at_
    exact k w7 vs ow7.le ow7.g a r
/-! ### the questions -/
structure AskOk (x : Mach × List Nat × List (List Nat)) : Prop where
  m : OkM x.1
  im : OkSk x.1.sizes x.2.1
  p : PieceOk x.1 x.2.2
abbrev spAsk (K : PySem.W.Frag) : Sp := spP (fun x : Mach × List Nat × List (List Nat) => AskOk x) (fun x => [sMach K x.1, sNs x.2.1, sPiece x.2.2]) (fun _ => sNon)
theorem ok_check_question (T : Txt K mg) : Ok_check_question P w K mg base (spAsk K) := by
  refine okP T.f_check_question sc_check_question (fun _ => rfl) fun cdv A outer s H E hr => ⟨_, (pss_cons (ps_expr (pe_call (ok_check_sketch T) (hr.mono (by decide)) rfl T.g_check_sketch T.f_check_sketch.kp T.b_check_sketch .nil pass0 (pa_cons (pv 0) (pa_cons (pv 1) pa_nil)))) (pss_one (ps_for PassesOwn.never rfl (pi_list (pv 2)) (pg_name (i := 3) sc_check_question.nd rfl (Or.inl rfl)) (pss_one (ps_expr (pe_call (ok_check_sketch T) (hr.mono (by decide)) rfl T.g_check_sketch T.f_check_sketch.kp T.b_check_sketch .nil pass0 (pa_cons (pv 0) (pa_cons (pv 3) pa_nil)))))))), ?_⟩
  rintro ⟨m, im, piece⟩ w0 σ Q hx o k
  have hx : AskOk (m, im, piece) := hx
  have o : EnvOk w0.G σ [some (sMach K m), some (sNs im), some (sPiece piece), none] := o
  refine q_drop o (e_call (m, im) ⟨hx.m, hx.im⟩ (ea_cons (e_var rfl) (ea_cons (e_var rfl) ea_nil))) fun w1 l1 o1 => ?_
  refine s_for o1 (i_list (R := sNs) (xs := piece) (e_var rfl)) (fun p => b_name) (fun _ => [some (sMach K m), some (sNs im), some (sPiece piece), none]) (fun _ w2 => Le w0 w2) (fun _ _ _ h l => h.trans l) (fun w2 l2 o2 => ⟨o2, l1.trans l2⟩)
    (fun i s σ2 w2 hs o2 h2 N hN => ?_) (fun σ2 w2 o2 h2 => k _ w2 h2 rfl)
  refine s_drop o2 (e_call (m, s) ⟨hx.m, hx.p.2 s (List.mem_of_getElem? hs)⟩ (ea_cons (e_var rfl) (ea_cons (e_var rfl) ea_nil))) fun w3 l3 o3 => ?_
  exact hN σ2 w3 _ o3 (fun o => o.drop 3) (h2.trans l3) l3.g
abbrev spAsk2 (K : PySem.W.Frag) : Sp := spP (fun x : Mach × List Nat × List Nat × List (List Nat) => OkM x.1 ∧ OkSk x.1.sizes x.2.1 ∧ OkSk x.1.sizes x.2.2.1 ∧ PieceOk x.1 x.2.2.2) (fun x => [sMach K x.1, sNs x.2.1, sNs x.2.2.1, sPiece x.2.2.2]) (fun _ => sNon)
theorem ok__check_questions (T : Txt K mg) : Ok__check_questions P w K mg base (spAsk2 K) := by
  refine okP T.f__check_questions sc__check_questions (fun _ => rfl) fun cdv A outer s H E hr => ⟨_, (pss_cons (ps_expr (pe_call (ok_check_sketch T) (hr.mono (by decide)) rfl T.g_check_sketch T.f_check_sketch.kp T.b_check_sketch .nil pass0 (pa_cons (pv 0) (pa_cons (pv 1) pa_nil)))) (pss_one (ps_expr (pe_call (ok_check_question T) (hr.mono (by decide)) rfl T.g_check_question T.f_check_question.kp T.b_check_question .nil pass0 (pa_cons (pv 0) (pa_cons (pv 2) (pa_cons (pv 3) pa_nil))))))), ?_⟩
  rintro ⟨m, ea, la, piece⟩ w0 σ Q ⟨hm, h1, h2, h3⟩ o k
  have hm : OkM m := hm
  have o : EnvOk w0.G σ [some (sMach K m), some (sNs ea), some (sNs la), some (sPiece piece)] := o
  refine q_drop o (e_call (m, ea) ⟨hm, h1⟩ (ea_cons (e_var rfl) (ea_cons (e_var rfl) ea_nil))) fun w1 l1 o1 => ?_
  refine s_drop o1 (e_call (m, la, piece) ⟨hm, h2, h3⟩ (ea_cons (e_var rfl) (ea_cons (e_var rfl) (ea_cons (e_var rfl) ea_nil)))) fun w2 l2 o2 => ?_
  exact k _ w2 (l1.trans l2) rfl
end
end R40

set_option Elab.async false
set_option linter.all false
set_option maxRecDepth 100000
set_option maxHeartbeats 4000000
/-! A search at rest; walks: _closed_rows, _way, _start, history. -/
namespace R40
open PySem PySem.Spec PyProof.Rows L2 M40
abbrev sSearch (K : PySem.W.Frag) (m : Mach) (piece : List (List Nat)) (t : SS) : Slot := sObj (He.ga K "Search") [("_machine", sMach K m), ("_piece", sPiece piece), ("_packed", sAny), ("sketches", sPiece t.sks), ("origins", sLst sOrg t.org), ("found", sInt (foundI t.found))]
theorem wide {B : List Addr} {w1 w2 : Wd} {a : Addr} (ha : a ∈ B) (l : LeB [a] w1 w2) : LeB B w1 w2 :=
  ⟨l.g, fun x o hx => l.h x o fun m => hx (by rw [List.mem_singleton.mp m]; exact ha), fun x o hx => l.own x o fun m => hx (by rw [List.mem_singleton.mp m]; exact ha)⟩
/-- an own list, an own instance comes to rest -/
theorem Own.rest {α : Type} {R : α → Slot} {xs : List α} {w : Wd} {l : Addr} (h : Own .nil l R xs w) : ∃ w2 : Wd, w2.H = w.H ∧ LeB [l] w w2 ∧ (sLst R xs).P w2.G (.ref l) ∧ (∀ a, a ≠ l → w.G a = none → w2.G a = none) := by
  obtain ⟨vs, a, r⟩ := h.at_
  exact ⟨w.frz l (.lst vs) a, rfl, Wd.frz_leB h.g (List.mem_singleton.mpr rfl), ⟨l, vs, rfl, upd_same, r.mono fun b u e => keepU (neN e h.g) e⟩, fun b hb n => keepU hb n⟩
theorem SearchAt.rest {K : PySem.W.Frag} {m : Mach} {piece : List (List Nat)} {b : SB} {t : SS} {w : Wd} (h : SearchAt K m piece b t w) : ∃ w2 : Wd, w2.H = w.H ∧ LeB b.B w w2 ∧ (sSearch K m piece t).P w2.G (.ref b.p) := by
  obtain ⟨n1, r1⟩ := List.nodup_cons.mp h.nd
  obtain ⟨n2, r2⟩ := List.nodup_cons.mp r1
  obtain ⟨n3, _⟩ := List.nodup_cons.mp r2
  have d2 : b.p ≠ b.ls := fun e => n1 (by rw [e]; simp)
  have d3 : b.p ≠ b.lo := fun e => n1 (by rw [e]; simp)
  have d6 : b.lo ≠ b.ls := fun e => n3 (by rw [e]; simp)
  have ni : ∀ {a c : Addr}, a ≠ c → a ∉ [c] := fun h m => h (List.mem_singleton.mp m)
  obtain ⟨w1, e1, l1, p1, _⟩ := h.sk.rest
  have og1 := h.og.nilB l1 (ni d6)
  have in1 := OwnI.upB (w0 := w) h.ins l1 (ni d2)
  obtain ⟨w2, e2, l2, p2, _⟩ := og1.rest
  have in2 := OwnI.upB (w0 := w) in1 l2 (ni d3)
  obtain ⟨vs, a, r⟩ := in2.at_
  have gx : ∀ c u, w2.G c = some u → upd w2.G b.p (.ins (He.ga K "Search") b.dx vs) c = some u := fun c u e => keepU (neN e in2.g) e
  refine ⟨w2.frz b.p (.ins (He.ga K "Search") b.dx vs) a, e2.trans e1, (wide (by simp) l1).trans ((wide (by simp) l2).trans (wide (by simp) (Wd.frz_leB in2.g (List.mem_singleton.mpr rfl)))), b.p, b.dx, vs, rfl, upd_same, ?_⟩
  have r2 := r.mono gx
  have q1 : (sPiece t.sks).P (upd w2.G b.p (.ins (He.ga K "Search") b.dx vs)) (.ref b.ls) := Slot.mono _ gx (Slot.mono _ l2.g p1)
  have q2 : (sLst sOrg t.org).P (upd w2.G b.p (.ins (He.ga K "Search") b.dx vs)) (.ref b.lo) := Slot.mono _ gx p2
  cases r2 with
  | cons a1 r2 =>
  cases r2 with
  | cons a2 r2 =>
  cases r2 with
  | cons a3 r2 =>
  cases r2 with
  | cons a4 r2 =>
  cases r2 with
  | cons a5 r2 =>
  cases r2 with
  | cons a6 r2 =>
  cases r2
  cases a4
  cases a5
  exact .cons a1 (.cons a2 (.cons trivial (.cons q1 (.cons q2 (.cons a6 .nil)))))
section
variable {Γ : Env} {w : Wd} {s t u : Slot} {te ta tb tc : TE} {tt tu : TT} {K : PySem.W.Frag} {α β : Type} {R : α → Slot} {xs ys : List α} {D : Ends} {σ : L2.St}
theorem e_methO {ι : Type} {C : Addr} {m : Str} {fs : List (Str × Slot)} {pre : ι → Prop} {as : ι → List Slot} {Φ : ι → Slot} {X : XK} {tg : TA} {ss : List Slot} (x : ι) (hp : pre x) (has : as x = sObj C fs :: ss) (hl : fs.lookup m = none)
    (ha : E ta Γ w (sObj C fs)) (h : EA tg Γ w ss) : E (tMeth C m (spP pre as Φ) [] X ta tg) Γ w (Φ x) := fun σ w1 l o Q q => ha σ w1 l o _ fun v w2 l2 p => by
  obtain ⟨a, dx, vs, rfl, hh, r⟩ := id p
  exact ⟨a, dx, vs, rfl, w2.sub _ _ hh, r.no hl, h σ w2 (l.trans l2) (o.up l2) _ fun us w3 l3 ar => ⟨x, w3, rfl, hp, by rw [has, List.append_nil]; exact .cons (Slot.up l3 p) ar, fun v w4 l4 p4 => q v w4 (l2.trans (l3.trans l4)) p4⟩⟩
/-- x += a list -/
theorem s_augL {l : Addr} {i : Nat} (o : EnvOk w.G σ Γ) (hi : Γ[i]? = some (some (sRef l))) (ow : Own .nil l R xs w) (h : EL te Γ w R ys) (hz : xs.length + ys.length ≤ 1000000)
    (k : ∀ (σ' : L2.St) (w2 : Wd), LeB [l] w w2 → Own .nil l R (xs ++ ys) w2 → EnvOk w2.G σ' (Γ.set i (some (sRef l))) → D.nx σ' w2.H) : tAug i te rExt2 D σ w.H := by
  obtain ⟨v, hv, pv⟩ := o.at_ i _ hi
  cases pv
  refine ⟨_, hv, h σ w .refl o _ fun p vs w2 l2 n1 n2 hp r => ?_⟩
  have ow2 := ow.up l2
  obtain ⟨us, a, r2⟩ := ow2.at_
  refine ⟨l, p, us, vs, rfl, rfl, a, hp, by rw [r2.len, r.len]; exact Nat.le_trans hz (by decide), ?_⟩
  have lb : LeB [l] w2 (w2.put l (.lst (us ++ vs)) ow2.g) := Wd.leB_put (List.mem_singleton.mpr rfl)
  exact k _ (w2.put l (.lst (us ++ vs)) ow2.g) ((LeB.up l2).trans lb) ⟨nil_le, rfl, ow2.g, us ++ vs, upd_same, r2.append r⟩ (((o.up l2).up lb).set rfl)
end
section
variable {P : Program} {w : World} {K : PySem.W.Frag} {mg : Str → Option Value} {base : Heap}
/-! ### _closed_rows -/
def spClosed (K : PySem.W.Frag) : Sp := fun vs H Q _ => ∃ (m : Mach) (piece : List (List Nat)) (b : SB) (t : SS) (w : Wd) (Rt : Nat → List Nat → Prop), w.H = H ∧ vs = [.ref b.p] ∧ OkM m ∧ PieceOk m piece ∧ SInv m piece Rt t ∧ SearchAt K m piece b t w ∧
  ∀ (rows : List (List (List Nat))) (t2 : SS) v w2, LeB b.B w w2 → RowsTo m piece t rows t2 → rows.length = t2.sks.length → SearchAt K m piece b t2 w2 → (sRows rows).P w2.G v → Q v w2.H
theorem PieceOk.len {m : Mach} {piece : List (List Nat)} (h : PieceOk m piece) : ∀ q ∈ piece, q.length = m.sizes.length := fun q hq => (h.2 q hq).1
theorem ok__closed_rows (T : Txt K mg) : Ok__closed_rows P w K mg base (spClosed K) := by
  refine okF T.f__closed_rows sc__closed_rows (fun vs H Q E h => ?_) fun cdv A outer s H E hr => ⟨_, (pss_cons (ps_set (i := 1) sc__closed_rows.nd rfl (Or.inl rfl) (pe_lst pa_nil)) (pss_cons (ps_while PassesOwn.never (pt_cmpR op_lt (pe_callB call_len_seq (by rfl) T.n_len boot_len (pa_cons (pv 1) pa_nil)) (pe_callB call_len_seq (by rfl) T.n_len boot_len (pa_cons (pe_fld (pv 0) rfl) pa_nil)) (nomark _)) (pss_one (ps_expr (pe_bm PySem.F.plainAttrs_list PySem.F.slot_list_append PySem.F.type_list_append mt_append (pv 1) (pa_cons (pe_meth (pv 0) T.c_Search T.m_Search_row (ok_Search_row T) (hr.mono (by decide)) T.b_Search_row .nil pass0 (pa_cons (pe_callB call_len_seq (by rfl) T.n_len boot_len (pa_cons (pv 1) pa_nil)) pa_nil)) pa_nil))))) (pss_one (ps_ret (pv 1))))), ?_⟩
  · obtain ⟨m, piece, b, t, w, Rt, _, rfl, _⟩ := h
    rfl
  rintro vs H Q ⟨m, piece, b, t, w0, Rt, rfl, rfl, hm, hpc, hI, sa, k⟩
  have o : EnvOk w0.G (L2.start N__closed_rows [.ref b.p]) [some (sRef b.p), none] := args_start (ss := [sRef b.p]) (.cons rfl .nil)
  refine q_setL (R := sRow) (xs := []) (w0 := w0) .refl o el_nil fun l σ1 w1 l1 ow1 o1 nl => ?_
  have own1 : Own .nil l sRow [] w1 := ⟨nil_le, rfl, ow1.g, ow1.at_⟩
  have nB : ∀ a ∈ b.B, a ∉ [l] := sa.new nl
  have nB2 : l ∉ b.B := fun m => nB l m (List.mem_singleton.mpr rfl)
  have plen := hpc.len
  refine q_while (ι := List (List (List Nat)) × SS) (fun x => 5000 - x.1.length) (fun _ => [some (sRef b.p), some (sRef l)]) (fun x w2 => LeB b.B w0 w2 ∧ RowsTo m piece t x.1 x.2 ∧ SearchAt K m piece b x.2 w2 ∧ Own .nil l sRow x.1 w2) (fun x => decide (x.1.length < x.2.sks.length))
    ([], t) o1 ⟨LeB.up l1, .nil, sa.up l1, own1⟩ (fun x u1 u2 h l => ⟨h.1.trans (LeB.up l), h.2.1, h.2.2.1.up l, h.2.2.2.up l⟩)
    (fun x u h => t_ltN (e_lenOw h.2.2.2 (e_var rfl)) (e_lenOw h.2.2.1.sk (e_fldOw h.2.2.1.ins T.c_Search T.a_Search_sketches rfl (e_var rfl)))) (fun x σ2 u c o2 h N hN => ?_) (fun x σ2 u c o2 h => ?_)
  · obtain ⟨rows, t2⟩ := x
    obtain ⟨lu, hR, s2, ow⟩ := h
    have lu : LeB b.B w0 u := lu
    have hR : RowsTo m piece t rows t2 := hR
    have s2 : SearchAt K m piece b t2 u := s2
    have ow : Own .nil l sRow rows u := ow
    have c : decide (rows.length < t2.sks.length) = true := c
    have c : rows.length < t2.sks.length := of_decide_eq_true c
    obtain ⟨i2, g2, le2, _⟩ := rows_all plen hI hR
    have few := i2.st.few hm
    refine q_appX (x := (rowF m piece t2 rows.length).2) (Post := fun u1 u2 => LeB b.B u1 u2 ∧ SearchAt K m piece b (rowF m piece t2 rows.length).1 u2) o2 ow (by omega) (e_var rfl) (fun u1 l3 o3 => ?_) (fun u1 u2 u3 l3 ⟨lp, sp⟩ l4 ow4 => ?_)
    · exact (x_meth rows.length o3 (s2.up l3) ⟨hm, hpc, i2.st, c⟩ rfl (e_var rfl) (ea_cons (e_lenOw (ow.up l3) (e_var rfl)) ea_nil)).imp fun v u2 ⟨a1, a2, a3⟩ => ⟨⟨a1, a2⟩, a3, (ow.up l3).nilB a1 nB2⟩
    · refine hN (rows ++ [(rowF m piece t2 rows.length).2], (rowF m piece t2 rows.length).1) σ2 u3 ?_ (((o2.up l3).up lp).up l4) ⟨?_, hR.snoc c, sp.upB l4 nB, ow4⟩
      · show 5000 - (rows ++ [_]).length < 5000 - rows.length
        rw [List.length_append]
        show 5000 - (rows.length + 1) < _
        omega
      · exact (lu.trans ((LeB.up l3).trans lp)).thenNew l4 nl
  · obtain ⟨rows, t2⟩ := x
    obtain ⟨lu, hR, s2, ow⟩ := h
    have lu : LeB b.B w0 u := lu
    have hR : RowsTo m piece t rows t2 := hR
    have s2 : SearchAt K m piece b t2 u := s2
    have ow : Own .nil l sRow rows u := ow
    have c : decide (rows.length < t2.sks.length) = false := c
    obtain ⟨i2, g2, le2, _⟩ := rows_all plen hI hR
    have ec : rows.length = t2.sks.length := by
      have := of_decide_eq_false c
      omega
    refine e_var (s := sRef l) (i := 1) rfl _ u .refl o2 _ fun v w3 l3 p => ?_
    cases p
    have ow3 := ow.up l3
    obtain ⟨vs, a3, r3⟩ := ow3.at_
    exact k rows t2 (.ref l) (w3.frz l (.lst vs) a3) ((lu.trans (LeB.up l3)).frz ow3.g nl) hR ec ((s2.up l3).upB (Wd.frz_leB ow3.g (List.mem_singleton.mpr rfl)) nB) ⟨l, vs, rfl, upd_same, r3.mono fun c u e => keepU (neN e ow3.g) e⟩
/-! ### ways -/
structure WayIn where
  m : Mach
  piece : List (List Nat)
  t : SS
  n : Nat
structure WayOk (x : WayIn) : Prop where
  back : ∀ (n d j : Nat), x.t.org[n]? = some (some (d, j)) → j < n
  lt : x.n < x.t.org.length
  few : x.t.org.length ≤ 100000
theorem pr_ne (p : Nat × Nat) : ∀ G v, (sPr p).P G v → ¬ v = .non := fun G v ⟨a, x, y, e, _⟩ q => by rw [e] at q; cases q
theorem org_not (o : Option (Nat × Nat)) : ∀ G v, (sOrg o).P G v → (!decide (v = V.non)) = o.isSome := fun G v p => by
  rw [opt_isN pr_ne o G v p]
  cases o <;> rfl
abbrev spWay (K : PySem.W.Frag) : Sp := spP (fun x : WayIn => WayOk x) (fun x => [sSearch K x.m x.piece x.t, sNat x.n]) (fun x => sEx (fun ds : List Nat => ∃ e, WayF x.t.org x.n ds e) sInts)
theorem ok__way (T : Txt K mg) : Ok__way P w K mg base (spWay K) := by
  refine okP T.f__way sc__way (fun _ => rfl) fun cdv A outer s H E hr => ⟨_, (pss_cons (ps_set (i := 2) sc__way.nd rfl (Or.inl rfl) (pe_lst pa_nil)) (pss_cons (ps_while PassesOwn.never (pt_cmpR op_notN (pe_ix ix_list (pe_fld (pv 0) rfl) (pv 1) (fun _ _ => rfl)) pe_non (nomark _)) (pss_cons (ps_asg (pe_ix ix_list (pe_fld (pv 0) rfl) (pv 1) (fun _ _ => rfl)) (pg_tup rfl (pgs_cons (pg_name (i := 3) sc__way.nd rfl (Or.inl rfl)) (pgs_cons (pg_name (i := 1) sc__way.nd rfl (Or.inl rfl)) pgs_nil)))) (pss_one (ps_expr (pe_bm PySem.F.plainAttrs_list PySem.F.slot_list_append PySem.F.type_list_append mt_append (pv 2) (pa_cons (pv 3) pa_nil)))))) (pss_one (ps_ret (pv 2))))), ?_⟩
  rintro x w0 σ Q hx o k
  have hx : WayOk x := hx
  have hf := hx.few
  have o : EnvOk w0.G σ [some (sSearch K x.m x.piece x.t), some (sNat x.n), none, none] := o
  refine q_setL (R := fun n : Nat => sNat n) (xs := []) (w0 := w0) .refl o el_nil fun l σ1 w1 l1 ow1 o1 nl => ?_
  refine q_while (ι := Nat × List Nat) (fun y => y.1) (fun y => [some (sSearch K x.m x.piece x.t), some (sNat y.1), some (sRef l), none]) (fun y w2 => y.1 + y.2.length ≤ x.n ∧ Own w0 l (fun n : Nat => sNat n) y.2 w2 ∧ ∀ ds e, WayF x.t.org y.1 ds e → WayF x.t.org x.n (y.2 ++ ds) e) (fun y => (x.t.org.getD y.1 none).isSome)
    (x.n, []) o1 ⟨by show x.n + 0 ≤ x.n; omega, ow1, fun ds e h => h⟩ (fun y u1 u2 h l => ⟨h.1, h.2.1.up l, h.2.2⟩) (fun y u h => ?_) (fun y σ2 u c o2 h N hN => ?_) (fun y σ2 u c o2 h => ?_)
  · have hlt : y.1 < x.t.org.length := by have := hx.lt; have := h.1; omega
    have eg : x.t.org[y.1]? = some (x.t.org.getD y.1 none) := by rw [List.getD_eq_getElem?_getD, List.getElem?_eq_getElem hlt]; rfl
    exact t_test (e_notN _ (org_not _) (e_ixL (R := sOrg) (i := y.1) eg (e_fld T.c_Search T.a_Search_origins rfl (e_var (s := sSearch K x.m x.piece x.t) rfl)) (e_var rfl)))
  · obtain ⟨n, ds⟩ := y
    obtain ⟨hle, ow, hw⟩ := h
    have hle : n + ds.length ≤ x.n := hle
    have ow : Own w0 l (fun n : Nat => sNat n) ds u := ow
    have hw : ∀ ds' e, WayF x.t.org n ds' e → WayF x.t.org x.n (ds ++ ds') e := hw
    have hlt : n < x.t.org.length := by have := hx.lt; omega
    have c : (x.t.org.getD n none).isSome = true := c
    obtain ⟨⟨d, j⟩, ej⟩ : ∃ p, x.t.org[n]? = some (some p) := by
      rw [List.getD_eq_getElem?_getD, List.getElem?_eq_getElem hlt] at c
      obtain ⟨p, hp⟩ := Option.isSome_iff_exists.mp c
      exact ⟨p, by rw [List.getElem?_eq_getElem hlt, show x.t.org[n] = some p from hp]⟩
    have hj := hx.back n d j ej
    have o2 : EnvOk u.G σ2 [some (sSearch K x.m x.piece x.t), some (sNat n), some (sRef l), none] := o2
    refine q_asg o2 (b_t2 (s := sNat d) (t := sNat j) b_name b_name) (e_is (e_ixL (R := sOrg) (i := n) ej (e_fld T.c_Search T.a_Search_origins rfl (e_var (s := sSearch K x.m x.piece x.t) rfl)) (e_var rfl)) rfl) fun σ3 w3 l3 o3 => ?_
    have o3 : EnvOk w3.G σ3 [some (sSearch K x.m x.piece x.t), some (sNat j), some (sRef l), some (sNat d)] := o3
    have hlen := hx.lt
    refine s_app (x := d) o3 (ow.up l3) (by omega) (e_var rfl) (e_var (s := sNat d) rfl) fun w4 l4 ow4 o4 => ?_
    refine hN (j, ds ++ [d]) σ3 w4 hj (o4.drop 3) ⟨?_, ow4, fun ds' e h => ?_⟩
    · show j + (ds ++ [d]).length ≤ x.n
      rw [List.length_append]
      show j + (ds.length + 1) ≤ _
      omega
    · show WayF x.t.org x.n ((ds ++ [d]) ++ ds') e
      rw [List.append_assoc]
      exact hw _ e (.step ej h)
  · obtain ⟨n, ds⟩ := y
    obtain ⟨hle, ow, hw⟩ := h
    have hle : n + ds.length ≤ x.n := hle
    have ow : Own w0 l (fun n : Nat => sNat n) ds u := ow
    have hw : ∀ ds' e, WayF x.t.org n ds' e → WayF x.t.org x.n (ds ++ ds') e := hw
    have hlt : n < x.t.org.length := by have := hx.lt; omega
    have c : (x.t.org.getD n none).isSome = false := c
    have en : x.t.org[n]? = some none := by
      rw [List.getD_eq_getElem?_getD, List.getElem?_eq_getElem hlt] at c
      rw [List.getElem?_eq_getElem hlt]
      cases e : x.t.org[n] with
      | none => rfl
      | some p =>
        have c : (x.t.org[n]).isSome = false := c
        rw [e] at c
        cases c
    refine s_retOw o2 ow (e_var rfl) fun v w4 l4 p => k v w4 l4 ⟨ds, ⟨n, ?_⟩, p⟩
    have := hw [] n (.done en)
    rw [List.append_nil] at this
    exact this
abbrev spStart (K : PySem.W.Frag) : Sp := spP (fun x : WayIn => WayOk x) (fun x => [sSearch K x.m x.piece x.t, sNat x.n]) (fun x => sEx (fun e : Nat => ∃ ds, WayF x.t.org x.n ds e) (fun n : Nat => sNat n))
theorem ok__start (T : Txt K mg) : Ok__start P w K mg base (spStart K) := by
  refine okP T.f__start sc__start (fun _ => rfl) fun cdv A outer s H E hr => ⟨_, (pss_cons (ps_while PassesOwn.never (pt_cmpR op_notN (pe_ix ix_list (pe_fld (pv 0) rfl) (pv 1) (fun _ _ => rfl)) pe_non (nomark _)) (pss_one (ps_set (i := 1) sc__start.nd rfl (Or.inl rfl) (pe_ix ix_tup (pe_ix ix_list (pe_fld (pv 0) rfl) (pv 1) (fun _ _ => rfl)) pe_int (fun _ _ => rfl))))) (pss_one (ps_ret (pv 1)))), ?_⟩
  rintro x w0 σ Q hx o k
  have hx : WayOk x := hx
  have hf := hx.few
  have o : EnvOk w0.G σ [some (sSearch K x.m x.piece x.t), some (sNat x.n)] := o
  refine q_while (ι := Nat) (fun y => y) (fun y => [some (sSearch K x.m x.piece x.t), some (sNat y)]) (fun y w2 => Le w0 w2 ∧ y ≤ x.n ∧ ∀ ds e, WayF x.t.org y ds e → ∃ ds2, WayF x.t.org x.n ds2 e) (fun y => (x.t.org.getD y none).isSome)
    x.n o ⟨.refl, Nat.le_refl _, fun ds e h => ⟨ds, h⟩⟩ (fun y u1 u2 h l => ⟨h.1.trans l, h.2⟩) (fun y u h => ?_) (fun n σ2 u c o2 h N hN => ?_) (fun n σ2 u c o2 h => ?_)
  · have hlt : y < x.t.org.length := by have := hx.lt; have := h.2.1; omega
    have eg : x.t.org[y]? = some (x.t.org.getD y none) := by rw [List.getD_eq_getElem?_getD, List.getElem?_eq_getElem hlt]; rfl
    exact t_test (e_notN _ (org_not _) (e_ixL (R := sOrg) (i := y) eg (e_fld T.c_Search T.a_Search_origins rfl (e_var (s := sSearch K x.m x.piece x.t) rfl)) (e_var rfl)))
  · obtain ⟨lu, hle, hw⟩ := h
    have hlt : n < x.t.org.length := by have := hx.lt; omega
    obtain ⟨⟨d, j⟩, ej⟩ : ∃ p, x.t.org[n]? = some (some p) := by
      rw [List.getD_eq_getElem?_getD, List.getElem?_eq_getElem hlt] at c
      obtain ⟨p, hp⟩ := Option.isSome_iff_exists.mp c
      exact ⟨p, by rw [List.getElem?_eq_getElem hlt, show x.t.org[n] = some p from hp]⟩
    have hj := hx.back n d j ej
    refine s_set o2 (e_ix2b (s := sNat d) (t := sNat j) (e_is (e_ixL (R := sOrg) (i := n) ej (e_fld T.c_Search T.a_Search_origins rfl (e_var (s := sSearch K x.m x.piece x.t) rfl)) (e_var rfl)) rfl)) fun σ3 w3 l3 o3 => ?_
    exact hN j σ3 w3 hj o3 ⟨lu.trans l3, by omega, fun ds e h => hw (d :: ds) e (.step ej h)⟩
  · obtain ⟨lu, hle, hw⟩ := h
    have hlt : n < x.t.org.length := by have := hx.lt; omega
    have en : x.t.org[n]? = some none := by
      rw [List.getD_eq_getElem?_getD, List.getElem?_eq_getElem hlt] at c
      rw [List.getElem?_eq_getElem hlt]
      cases e : x.t.org[n] with
      | none => rfl
      | some p =>
        have c : (x.t.org[n]).isSome = false := c
        rw [e] at c
        cases c
    refine s_ret o2 (e_var (s := sNat n) rfl) fun v w4 l4 p => k v w4 (lu.trans l4) ⟨n, hw [] n (.done en), p⟩
/-! ### history -/
structure HisIn where
  m : Mach
  piece : List (List Nat)
  t : SS
  f : Nat
  s : List Nat
  c : List Nat
structure HisOk (x : HisIn) : Prop where
  m : OkM x.m
  fnd : x.t.found = some x.f
  at_ : x.t.sks[x.f]? = some x.s
  ok : OkSk x.m.sizes x.s
  met : meetF x.s x.m.first = some x.c
  back : ∀ (n d j : Nat), x.t.org[n]? = some (some (d, j)) → j < n
  len : x.t.org.length = x.t.sks.length
  few : x.t.org.length ≤ 100000
abbrev spHistory (K : PySem.W.Frag) : Sp := spP (fun x : HisIn => HisOk x) (fun x => [sSearch K x.m x.piece x.t]) (fun x => sEx (fun y : List Nat × List Nat => LeastF x.c y.1 ∧ ∃ e, WayF x.t.org x.f y.2 e) (fun y => sT2 (sNs y.1) (sInts y.2)))
theorem ok_Search_history (T : Txt K mg) : Ok_Search_history P w K mg base (spHistory K) := by
  refine okP T.f_Search_history sc_Search_history (fun _ => rfl) fun cdv A outer s H E hr => ⟨_, (pss_cons (ps_set (i := 1) sc_Search_history.nd rfl (Or.inl rfl) (pe_fld (pv 0) rfl)) (pss_cons (ps_set (i := 2) sc_Search_history.nd rfl (Or.inl rfl) (pe_call (ok_least_disk T) (hr.mono (by decide)) rfl T.g_least_disk T.f_least_disk.kp T.b_least_disk .nil pass0 (pa_cons (pe_call (ok_meet T) (hr.mono (by decide)) rfl T.g_meet T.f_meet.kp T.b_meet .nil pass0 (pa_cons (pe_ix ix_list (pe_fld (pv 0) rfl) (pv 1) (fun _ _ => rfl)) (pa_cons (pe_fld (pe_fld (pv 0) rfl) rfl) pa_nil))) pa_nil))) (pss_cons (ps_set (i := 3) sc_Search_history.nd rfl (Or.inl rfl) (pe_lst pa_nil)) (pss_cons (ps_while PassesOwn.never (pt_cmpR op_notN (pe_ix ix_list (pe_fld (pv 0) rfl) (pv 1) (fun _ _ => rfl)) pe_non (nomark _)) (pss_cons (ps_asg (pe_ix ix_list (pe_fld (pv 0) rfl) (pv 1) (fun _ _ => rfl)) (pg_tup rfl (pgs_cons (pg_name (i := 4) sc_Search_history.nd rfl (Or.inl rfl)) (pgs_cons (pg_name (i := 1) sc_Search_history.nd rfl (Or.inl rfl)) pgs_nil)))) (pss_one (ps_expr (pe_bm PySem.F.plainAttrs_list PySem.F.slot_list_append PySem.F.type_list_append mt_append (pv 3) (pa_cons (pv 4) pa_nil)))))) (pss_one (ps_ret (pe_tup (pa_cons (pv 2) (pa_cons (pv 3) pa_nil))))))))), ?_⟩
  rintro x w0 σ Q hx o k
  have hx : HisOk x := hx
  have hf := hx.few
  have okc : OkSk x.m.sizes x.c := meet_ok hx.ok hx.m.first.1 hx.met
  have ff : foundI x.t.found = (x.f : Int) := by rw [hx.fnd]; rfl
  have o : EnvOk w0.G σ [some (sSearch K x.m x.piece x.t), none, none, none, none] := o
  have hlen : x.f < x.t.org.length := by rw [hx.len]; exact (List.getElem?_eq_some_iff.mp hx.at_).1
  have lm := hx.m.few
  refine q_set (s := sNat x.f) o (e_is (e_fld T.c_Search T.a_Search_found rfl (e_var (s := sSearch K x.m x.piece x.t) rfl)) (by rw [ff])) fun σ1 w1 l1 o1 => ?_
  refine q_set (s := sEx (LeastOk x.c) sNs) o1 (e_call x.c ⟨by rw [okc.1]; omega, fun v hv => ?_⟩ (ea_cons (e_is (e_call (x.s, x.m.first) (by show x.s.length ≤ 1000; rw [hx.ok.1]; omega)
    (ea_cons (e_ixL (R := sNs) (i := x.f) hx.at_ (e_fld T.c_Search T.a_Search_sketches rfl (e_var (s := sSearch K x.m x.piece x.t) rfl)) (e_var rfl)) (ea_cons (e_fld T.c_Machine T.a_Machine_first rfl (e_fld T.c_Search T.a_Search__machine rfl (e_var (s := sSearch K x.m x.piece x.t) rfl))) ea_nil))) (show sOpt sNs (meetF x.s x.m.first) = sNs x.c by rw [hx.met]; rfl)) ea_nil)) fun σ2 w2 l2 o2 => ?_
  · obtain ⟨i, hi, rfl⟩ := mem_at0.mp hv
    rw [okc.1] at hi
    have h1 := okc.2 i hi
    have h2 := sk_small hx.m okc (at0 x.c i) hv
    exact ⟨h1.1, Nat.lt_of_lt_of_le h2 (by
      have : 2 ^ 16 ≤ 2 ^ 1000 := Nat.pow_le_pow_right (by decide) (by decide)
      exact this)⟩
  have o2 : EnvOk w2.G σ2 [some (sSearch K x.m x.piece x.t), some (sNat x.f), some (sEx (LeastOk x.c) sNs), none, none] := o2
  obtain ⟨dv, hdv, disk, hdisk, pd⟩ := o2.at_ 2 _ rfl
  have o2 : EnvOk w2.G σ2 [some (sSearch K x.m x.piece x.t), some (sNat x.f), some (sNs disk), none, none] := by
    refine ⟨o2.len, fun i s e => ?_⟩
    by_cases h2 : i = 2
    · subst h2
      cases e
      exact ⟨dv, hdv, pd⟩
    · exact o2.at_ i s (by match i, h2, e with
        | 0, _, e => exact e
        | 1, _, e => exact e
        | 3, _, e => exact e
        | 4, _, e => exact e
        | n + 5, _, e => exact e)
  refine q_setL (R := fun n : Nat => sNat n) (xs := []) (w0 := w0) (l1.trans l2) o2 el_nil fun l σ3 w3 l3 ow3 o3 nl => ?_
  refine q_while (ι := Nat × List Nat) (fun y => y.1) (fun y => [some (sSearch K x.m x.piece x.t), some (sNat y.1), some (sNs disk), some (sRef l), none]) (fun y w2 => y.1 + y.2.length ≤ x.f ∧ Own w0 l (fun n : Nat => sNat n) y.2 w2 ∧ ∀ ds e, WayF x.t.org y.1 ds e → WayF x.t.org x.f (y.2 ++ ds) e) (fun y => (x.t.org.getD y.1 none).isSome)
    (x.f, []) o3 ⟨by show x.f + 0 ≤ x.f; omega, ow3, fun ds e h => h⟩ (fun y u1 u2 h l => ⟨h.1, h.2.1.up l, h.2.2⟩) (fun y u h => ?_) (fun y σ4 u c o4 h N hN => ?_) (fun y σ4 u c o4 h => ?_)
  · have hlt : y.1 < x.t.org.length := by have := h.1; omega
    have eg : x.t.org[y.1]? = some (x.t.org.getD y.1 none) := by rw [List.getD_eq_getElem?_getD, List.getElem?_eq_getElem hlt]; rfl
    exact t_test (e_notN _ (org_not _) (e_ixL (R := sOrg) (i := y.1) eg (e_fld T.c_Search T.a_Search_origins rfl (e_var (s := sSearch K x.m x.piece x.t) rfl)) (e_var rfl)))
  · obtain ⟨n, ds⟩ := y
    obtain ⟨hle, ow, hw⟩ := h
    have hle : n + ds.length ≤ x.f := hle
    have ow : Own w0 l (fun n : Nat => sNat n) ds u := ow
    have hw : ∀ ds' e, WayF x.t.org n ds' e → WayF x.t.org x.f (ds ++ ds') e := hw
    have hlt : n < x.t.org.length := by omega
    have c : (x.t.org.getD n none).isSome = true := c
    obtain ⟨⟨d, j⟩, ej⟩ : ∃ p, x.t.org[n]? = some (some p) := by
      rw [List.getD_eq_getElem?_getD, List.getElem?_eq_getElem hlt] at c
      obtain ⟨p, hp⟩ := Option.isSome_iff_exists.mp c
      exact ⟨p, by rw [List.getElem?_eq_getElem hlt, show x.t.org[n] = some p from hp]⟩
    have hj := hx.back n d j ej
    have o4 : EnvOk u.G σ4 [some (sSearch K x.m x.piece x.t), some (sNat n), some (sNs disk), some (sRef l), none] := o4
    refine q_asg o4 (b_t2 (s := sNat d) (t := sNat j) b_name b_name) (e_is (e_ixL (R := sOrg) (i := n) ej (e_fld T.c_Search T.a_Search_origins rfl (e_var (s := sSearch K x.m x.piece x.t) rfl)) (e_var rfl)) rfl) fun σ5 w5 l5 o5 => ?_
    have o5 : EnvOk w5.G σ5 [some (sSearch K x.m x.piece x.t), some (sNat j), some (sNs disk), some (sRef l), some (sNat d)] := o5
    refine s_app (x := d) o5 (ow.up l5) (by omega) (e_var rfl) (e_var (s := sNat d) rfl) fun w6 l6 ow6 o6 => ?_
    refine hN (j, ds ++ [d]) σ5 w6 hj (o6.drop 4) ⟨?_, ow6, fun ds' e h => ?_⟩
    · show j + (ds ++ [d]).length ≤ x.f
      rw [List.length_append]
      show j + (ds.length + 1) ≤ _
      omega
    · show WayF x.t.org x.f ((ds ++ [d]) ++ ds') e
      rw [List.append_assoc]
      exact hw _ e (.step ej h)
  · obtain ⟨n, ds⟩ := y
    obtain ⟨hle, ow, hw⟩ := h
    have hle : n + ds.length ≤ x.f := hle
    have ow : Own w0 l (fun n : Nat => sNat n) ds u := ow
    have hw : ∀ ds' e, WayF x.t.org n ds' e → WayF x.t.org x.f (ds ++ ds') e := hw
    have hlt : n < x.t.org.length := by omega
    have c : (x.t.org.getD n none).isSome = false := c
    have en : x.t.org[n]? = some none := by
      rw [List.getD_eq_getElem?_getD, List.getElem?_eq_getElem hlt] at c
      rw [List.getElem?_eq_getElem hlt]
      cases e : x.t.org[n] with
      | none => rfl
      | some p =>
        have c : (x.t.org[n]).isSome = false := c
        rw [e] at c
        cases c
    obtain ⟨w7, e7, l7, g7, o7⟩ := Own.stable (i := 3) ow o4 rfl
    rw [← e7]
    refine s_ret o7 (e_tup2 (s := sNs disk) (t := sInts ds) (e_var rfl) (e_var rfl)) fun v w8 l8 p => k v w8 (l7.trans l8) ⟨(disk, ds), ⟨hdisk, n, ?_⟩, p⟩
    have := hw [] n (.done en)
    rw [List.append_nil] at this
    exact this
end
end R40

set_option Elab.async false
set_option linter.all false
set_option maxRecDepth 100000
set_option maxHeartbeats 8000000
/-! Walk: tell_between. -/
namespace R40
open PySem PySem.Spec PyProof.Rows L2 M40
section
variable {P : Program} {w : World} {K : PySem.W.Frag} {mg : Str → Option Value} {base : Heap}
/-- what was said, as an answer -/
def ansOf : Said → AnsIn
  | .told sks cover table links roots steps => .told ⟨sks, cover, table, links, roots, steps⟩
  | .not disk ds moment => .not disk ds moment
abbrev sAnswer (K : PySem.W.Frag) (x : Said) : Slot := sObj (He.ga K "BetweenAnswer") (AnsIn.fs K (ansOf x))
structure TellIn where
  m : Mach
  earlier : List Nat
  later : List Nat
  piece : List (List Nat)
structure TellOk (x : TellIn) : Prop where
  m : OkM x.m
  e : OkSk x.m.sizes x.earlier
  l : OkSk x.m.sizes x.later
  p : PieceOk x.m x.piece
abbrev spTell (K : PySem.W.Frag) : Sp := spP (fun x : TellIn => TellOk x) (fun x => [sMach K x.m, sNs x.earlier, sNs x.later, sPiece x.piece]) (fun x => sEx (fun s : Said => Tells x.m x.earlier x.later x.piece s) (sAnswer K))
theorem q_let {te : TE} {g : TG} {tz : TS} {D : Ends} {σ : L2.St} {w : Wd} {R : V → Wd → Prop} (h : X te σ w R) (k : ∀ v w2, R v w2 → g v σ w2.H fun σ' H' => tz D σ' H') : tSeq (tAsg te g) tz D σ w.H := h _ fun v w2 r => k v w2 r
theorem x_closed {Γ : Env} {w : Wd} {ta : TA} {σ : L2.St} {m : Mach} {piece : List (List Nat)} {b : SB} {t : SS} {Rt : Nat → List Nat → Prop} {XX : XK} (o : EnvOk w.G σ Γ) (hm : OkM m) (hp : PieceOk m piece) (hI : SInv m piece Rt t) (sa : SearchAt K m piece b t w) (h : EA ta Γ w [sRef b.p]) :
    X (tCall (spClosed K) [] XX ta) σ w (fun v w2 => ∃ (rows : List (List (List Nat))) (t2 : SS), LeB b.B w w2 ∧ RowsTo m piece t rows t2 ∧ rows.length = t2.sks.length ∧ SearchAt K m piece b t2 w2 ∧ (sRows rows).P w2.G v) := fun Q q =>
  h σ w .refl o _ fun vs w1 l1 a => by
    cases a with
    | @cons v s vs' ss p r =>
    cases r
    cases p
    exact ⟨m, piece, b, t, w1, Rt, rfl, rfl, hm, hp, hI, sa.up l1, fun rows t2 v w2 l2 hr e s2 p => q v w2 ⟨rows, t2, (LeB.up l1).trans l2, hr, e, s2, p⟩⟩
theorem x_one {α : Type} {R : α → Slot} {x : α} {te : TE} {σ : L2.St} {w : Wd} {Post : Wd → Prop} (h : X te σ w (fun v w2 => Post w2 ∧ (R x).P w2.G v)) (mono : ∀ w1 w2, Post w1 → Le w1 w2 → Post w2) : X (tLst (tCons te tNil)) σ w (fun v w2 => Post w2 ∧ (sLst R [x]).P w2.G v) := fun Q q =>
  h _ fun v w2 ⟨hp, pv⟩ => ⟨by show 1 ≤ sizeLine; decide, fun a na => q (.ref a) (w2.new a (.lst [v])) ⟨mono _ _ hp (Wd.le_new na), a, [v], rfl, upd_same, .cons (Slot.up (Wd.le_new na) pv) .nil⟩⟩
theorem qq_appX {α : Type} {R : α → Slot} {xs : List α} {l : Addr} {x : α} {Post : Wd → Wd → Prop} {Γ : Env} {w : Wd} {ta te : TE} {σ : L2.St} {D : Ends} {tz : TS} (o : EnvOk w.G σ Γ) (ow : Own .nil l R xs w) (hz : xs.length ≤ 1000000) (ha : E ta Γ w (sRef l))
    (h : ∀ w1 : Wd, Le w w1 → EnvOk w1.G σ Γ → X te σ w1 (fun v w2 => Post w1 w2 ∧ (R x).P w2.G v ∧ Own .nil l R xs w2))
    (k : ∀ w1 w2 w3 : Wd, Le w w1 → Post w1 w2 → LeB [l] w2 w3 → Own .nil l R (xs ++ [x]) w3 → tz D σ w3.H) : tSeq (tDrop (tBM K "list" rAppend ta (tCons te tNil))) tz D σ w.H := q_appX (D := { D with nx := tz D }) o ow hz ha h k
theorem way_last {org : List (Option (Nat × Nat))} {n e : Nat} {ds : List Nat} (h : WayF org n ds e) : org[e]? = some none := by
  induction h with
  | done h => exact h
  | step _ _ ih => exact ih
theorem way_len {org : List (Option (Nat × Nat))} {n e : Nat} {ds : List Nat} (hb : ∀ (n d j : Nat), org[n]? = some (some (d, j)) → j < n) (h : WayF org n ds e) : ds.length ≤ n := by
  induction h with
  | done h => exact Nat.zero_le _
  | step q _ ih =>
    have := hb _ _ _ q
    show _ + 1 ≤ _
    omega
theorem x_makeA {ι : Type} {C : Addr} {pre : ι → Prop} {as : ι → List Slot} {fs : ι → List (Str × Slot)} {XX : XK} {ta : TA} {σ : L2.St} {w : Wd} {Rx : ι → Prop} (h : ∀ Q : List V → Hp → Prop, (∀ vs w2 x, Le w w2 → Rx x → pre x → Args w2.G vs (as x) → Q vs w2.H) → ta σ w.H Q) :
    X (tMake C (spI C pre as fs) [] XX ta) σ w (fun v w3 => ∃ x, Rx x ∧ Le w w3 ∧ (sObj C (fs x)).P w3.G v) := fun Q q =>
  h _ fun vs w2 x l2 hr hp a p dx np nd ne => by
    refine ⟨x, w2.made p dx C np nd ne, p, dx, vs, rfl, by rw [List.append_nil], hp, a.mono Wd.le_made.g, Wd.made_h, Wd.made_g, fun w3 fvs l3 g3 h3 r => ⟨rfl, ?_⟩⟩
    have l4 : Le w2 w3 := Wd.le_made.thenB l3 (fun b m => by rw [List.mem_singleton.mp m]; exact np)
    exact q (.ref p) (w3.frz p (.ins C dx fvs) h3) ⟨x, hr, l2.trans (l4.frz g3 np), p, dx, fvs, rfl, upd_same, r.mono fun b u e => keepU (neN e g3) e⟩
theorem ok_tell_between (T : Txt K mg) : Ok_tell_between P w K mg base (spTell K) := by
  refine okP T.f_tell_between sc_tell_between (fun _ => rfl) fun cdv A outer s H E hr => ⟨_, (pss_cons (ps_expr (pe_call (ok__check_questions T) (hr.mono (by decide)) rfl T.g__check_questions T.f__check_questions.kp T.b__check_questions .nil pass0 (pa_cons (pv 0) (pa_cons (pv 1) (pa_cons (pv 2) (pa_cons (pv 3) pa_nil)))))) (pss_cons (ps_set (i := 4) sc_tell_between.nd rfl (Or.inl rfl) (pe_make T.k_Search (ok_Search_init T) (hr.mono (by decide)) rfl T.g_Search T.b_Search_init .nil pass0 (pa_cons (pv 0) (pa_cons (pv 3) pa_nil)))) (pss_cons (ps_set (i := 5) sc_tell_between.nd rfl (Or.inl rfl) (pe_meth (pv 4) T.c_Search T.m_Search_places (ok_Search_places T) (hr.mono (by decide)) T.b_Search_places .nil pass0 (pa_cons (pv 2) (pa_cons pe_non pa_nil)))) (pss_cons (ps_set (i := 6) sc_tell_between.nd rfl (Or.inl rfl) (pe_call (ok__closed_rows T) (hr.mono (by decide)) rfl T.g__closed_rows T.f__closed_rows.kp T.b__closed_rows .nil pass0 (pa_cons (pv 4) pa_nil))) (pss_cons (ps_set (i := 7) sc_tell_between.nd rfl (Or.inl rfl) (pe_make T.k_Search (ok_Search_init T) (hr.mono (by decide)) rfl T.g_Search T.b_Search_init .nil pass0 (pa_cons (pv 0) (pa_cons (pe_lst pa_nil) pa_nil)))) (pss_cons (ps_set (i := 8) sc_tell_between.nd rfl (Or.inl rfl) (pe_lst pa_nil)) (pss_cons (ps_set (i := 9) sc_tell_between.nd rfl (Or.inl rfl) (pe_lst pa_nil)) (pss_cons (ps_for PassesOwn.never rfl (pi_enum (by rfl) T.n_enumerate (pa_cons (pe_fld (pv 4) rfl) pa_nil)) (pg_tup rfl (pgs_cons (pg_name (i := 10) sc_tell_between.nd rfl (Or.inl rfl)) (pgs_cons (pg_name (i := 11) sc_tell_between.nd rfl (Or.inl rfl)) pgs_nil))) (pss_cons (ps_set (i := 12) sc_tell_between.nd rfl (Or.inl rfl) (pe_call (ok_meet T) (hr.mono (by decide)) rfl T.g_meet T.f_meet.kp T.b_meet .nil pass0 (pa_cons (pv 11) (pa_cons (pv 1) pa_nil)))) (pss_cons (ps_expr (pe_bm PySem.F.plainAttrs_list PySem.F.slot_list_append PySem.F.type_list_append mt_append (pv 8) (pa_cons (pe_ifExp (pt_cmpR op_isN (pv 12) pe_non (nomark _)) (pe_lst pa_nil) (pe_lst (pa_cons (pe_meth (pv 7) T.c_Search T.m_Search_place (ok_Search_place T) (hr.mono (by decide)) T.b_Search_place .nil pass0 (pa_cons (pv 12) (pa_cons pe_non pa_nil))) pa_nil))) pa_nil))) (pss_one (ps_aug (i := 9) sc_tell_between.nd rfl (Or.inl rfl) (pe_op op_rep (pe_lst (pa_cons (pv 10) pa_nil)) (pe_op op_sub (pe_callB call_len_seq (by rfl) T.n_len boot_len (pa_cons (pe_fld (pv 7) rfl) pa_nil)) (pe_callB call_len_seq (by rfl) T.n_len boot_len (pa_cons (pv 9) pa_nil)))) ip_ext))))) (pss_cons (ps_set (i := 13) sc_tell_between.nd rfl (Or.inl rfl) (pe_lst pa_nil)) (pss_cons (ps_while PassesOwn.never (PW.pt (pw_and (pt_cmpR op_lt (pe_fld (pv 7) rfl) pe_int (nomark _)) (pw_and1 (pt_cmpR op_lt (pe_callB call_len_seq (by rfl) T.n_len boot_len (pa_cons (pv 13) pa_nil)) (pe_callB call_len_seq (by rfl) T.n_len boot_len (pa_cons (pe_fld (pv 7) rfl) pa_nil)) (nomark _))))) (pss_one (ps_expr (pe_bm PySem.F.plainAttrs_list PySem.F.slot_list_append PySem.F.type_list_append mt_append (pv 13) (pa_cons (pe_meth (pv 7) T.c_Search T.m_Search_row (ok_Search_row T) (hr.mono (by decide)) T.b_Search_row .nil pass0 (pa_cons (pe_callB call_len_seq (by rfl) T.n_len boot_len (pa_cons (pv 13) pa_nil)) pa_nil)) pa_nil))))) (pss_cons (ps_if (pt_cmpR op_lt (pe_fld (pv 7) rfl) pe_int (nomark _)) (pss_cons (ps_set (i := 14) sc_tell_between.nd rfl (Or.inl rfl) (pe_make T.k_BetweenPaper (ok_BetweenPaper_init T) (hr.mono (by decide)) rfl T.g_BetweenPaper T.b_BetweenPaper_init .nil pass0 (pa_cons (pe_fld (pv 4) rfl) (pa_cons (pv 5) (pa_cons (pv 6) (pa_cons (pv 8) (pa_cons (pe_fld (pv 7) rfl) (pa_cons (pv 13) pa_nil)))))))) (pss_one (ps_ret (pe_make T.k_BetweenAnswer (ok_BetweenAnswer_init T) (hr.mono (by decide)) rfl T.g_BetweenAnswer T.b_BetweenAnswer_init .nil pass0 (pa_cons pe_bl (pa_cons (pv 14) (pa_cons pe_non (pa_cons pe_non (pa_cons pe_non pa_nil))))))))) pss_nil) (pss_cons (ps_asg (pe_meth0 (pv 7) T.c_Search T.m_Search_history (ok_Search_history T) (hr.mono (by decide)) T.b_Search_history .nil pass0) (pg_tup rfl (pgs_cons (pg_name (i := 15) sc_tell_between.nd rfl (Or.inl rfl)) (pgs_cons (pg_name (i := 16) sc_tell_between.nd rfl (Or.inl rfl)) pgs_nil)))) (pss_cons (ps_set (i := 17) sc_tell_between.nd rfl (Or.inl rfl) (pe_ix ix_list (pv 9) (pe_call (ok__start T) (hr.mono (by decide)) rfl T.g__start T.f__start.kp T.b__start .nil pass0 (pa_cons (pv 7) (pa_cons (pe_fld (pv 7) rfl) pa_nil))) (fun _ _ => rfl))) (pss_one (ps_ret (pe_make T.k_BetweenAnswer (ok_BetweenAnswer_init T) (hr.mono (by decide)) rfl T.g_BetweenAnswer T.b_BetweenAnswer_init .nil pass0 (pa_cons pe_bl (pa_cons pe_non (pa_cons (pv 15) (pa_cons (pe_op op_cat (pv 16) (pe_call (ok__way T) (hr.mono (by decide)) rfl T.g__way T.f__way.kp T.b__way .nil pass0 (pa_cons (pv 4) (pa_cons (pv 17) pa_nil)))) (pa_cons (pe_callB call_len_seq (by rfl) T.n_len boot_len (pa_cons (pv 16) pa_nil)) pa_nil))))))))))))))))))))), ?_⟩
  rintro ⟨m, ea, la, piece⟩ w0 σ Q hx o k
  have hm : OkM m := hx.m
  have he : OkSk m.sizes ea := hx.e
  have hl : OkSk m.sizes la := hx.l
  have hp : PieceOk m piece := hx.p
  have plen := hp.len
  have k : ∀ (s : Said) v w2, Tells m ea la piece s → Le w0 w2 → (sAnswer K s).P w2.G v → Q v w2.H := fun s v w2 ht l p => k v w2 l ⟨s, ht, p⟩
  have o : EnvOk w0.G σ [some (sMach K m), some (sNs ea), some (sNs la), some (sPiece piece), none, none, none, none, none, none, none, none, none, none, none, none, none, none] := o
  refine q_drop o (e_call (m, ea, la, piece) ⟨hm, he, hl, hp⟩ (ea_cons (e_var rfl) (ea_cons (e_var rfl) (ea_cons (e_var rfl) (ea_cons (e_var rfl) ea_nil))))) fun w1 l1 o1 => ?_
  -- search, cover, table
  refine q_newS (m := m) (piece := piece) o1 (ea_cons (e_var rfl) (ea_cons (e_var rfl) ea_nil)) fun b σ2 w2 l2 sa2 o2 f2 => ?_
  have o2 : EnvOk w2.G σ2 [some (sMach K m), some (sNs ea), some (sNs la), some (sPiece piece), some (sRef b.p), none, none, none, none, none, none, none, none, none, none, none, none, none] := o2
  have i0 : SInv m piece (fun _ s => s ∈ withoutF la piece) SS.none := SInv.start
  refine q_let (x_meth (la, none) o2 sa2 ⟨hm, hp, hl, i0.st⟩ rfl (e_var rfl) (ea_cons (e_var rfl) (ea_cons (R40.E.imp (s := sNon) e_c fun _ _ h => h) ea_nil))) fun v3 w3 ⟨l3, sa3, p3⟩ => ?_
  have sa3 : SearchAt K m piece b (placesF m.first piece SS.none la none).1 w3 := sa3
  obtain ⟨i3, g3, c3⟩ : SInv m piece (fun _ s => s ∈ withoutF la piece) (placesF m.first piece SS.none la none).1 ∧ Grown SS.none (placesF m.first piece SS.none la none).1 ∧ Cov (placesF m.first piece SS.none la none).1.sks (placesF m.first piece SS.none la none).2 (withoutF la piece) :=
    placeAll_all _ _ i0 (without_ok hl plen) fun t2 _ _ x hx => hx
  have p3 : (sInts (placesF m.first piece SS.none la none).2).P w3.G v3 := p3
  refine b_name (i := 5) v3 σ2 w3 _ p3 (o2.mono l3.g) _ fun σ3 o3 _ _ => ?_
  have o3 : EnvOk w3.G σ3 [some (sMach K m), some (sNs ea), some (sNs la), some (sPiece piece), some (sRef b.p), some (sInts (placesF m.first piece SS.none la none).2), none, none, none, none, none, none, none, none, none, none, none, none] := o3
  refine q_let (x_closed o3 hm hp i3 sa3 (ea_cons (e_var rfl) ea_nil)) fun v4 w4 ⟨table, ts, l4, hR, hlen, sa4, p4⟩ => ?_
  obtain ⟨i4, g4, _, r4⟩ := rows_all plen i3 hR
  refine b_name (i := 6) v4 σ3 w4 _ p4 (o3.mono l4.g) _ fun σ4 o4 _ _ => ?_
  obtain ⟨w5, e5, l5, p5⟩ := sa4.rest
  rw [← e5]
  have L5 : Le w0 w5 := Le.thenB (l1.trans l2) ((l3.trans l4).trans l5) fun x hx => l1.free (f2 x hx)
  have o5 : EnvOk w5.G σ4 [some (sMach K m), some (sNs ea), some (sNs la), some (sPiece piece), some (sSearch K m piece ts), some (sInts (placesF m.first piece SS.none la none).2), some (sRows table), none, none, none, none, none, none, none, none, none, none, none] :=
    (o4.mono l5.g).imp (i := 4) (s := sRef b.p) rfl fun v e => by cases e; exact p5
  -- back, links, owners
  refine q_newS (m := m) (piece := []) o5 (ea_cons (e_var rfl) (ea_cons (el_nil (R := sNs)).e ea_nil)) fun b2 σ6 w6 l6 sa6 o6 f6 => ?_
  refine q_setL (R := fun e : List Nat => sInts e) (xs := []) (w0 := .nil) nil_le o6 el_nil fun l σ7 w7 l7 ow7 o7 n7 => ?_
  have sa7 := sa6.up l7
  have nB : ∀ a ∈ b2.B, a ∉ [l] := sa6.new n7
  have nB2 : l ∉ b2.B := fun m => nB l m (List.mem_singleton.mpr rfl)
  refine q_setL (R := fun n : Nat => sNat n) (xs := []) (w0 := .nil) nil_le o7 el_nil fun lo σ8 w8 l8 ow8 o8 n8 => ?_
  have sa8 := sa7.up l8
  have mB : ∀ a ∈ b2.B, a ∉ [lo] := sa7.new n8
  have mB2 : lo ∉ b2.B := fun m => mB lo m (List.mem_singleton.mpr rfl)
  have nl : l ≠ lo := fun e => by
    obtain ⟨_, q, _⟩ := ow7.at_
    rw [e, n8] at q
    cases q
  have fl : w5.H l = none := Le.free l6 n7
  have flo : w5.H lo = none := Le.free (l6.trans l7) n8
  have fB : ∀ x ∈ b2.B, w5.H x = none := f6
  have hpn : PieceOk m [] := ⟨Nat.zero_le _, fun q h => (nomatch h)⟩
  have fewS := i4.st.few hm
  have okS : ∀ s ∈ ts.sks, OkSk m.sizes s := i4.st.ok
  have o8 : EnvOk w8.G σ8 [some (sMach K m), some (sNs ea), some (sNs la), some (sPiece piece), some (sSearch K m piece ts), some (sInts (placesF m.first piece SS.none la none).2), some (sRows table), some (sRef b2.p), some (sRef l), some (sRef lo), none, none, none, none, none, none, none, none] := o8
  refine q_for o8 (i_enumL (R := sNs) (xs := ts.sks) (e_fld T.c_Search T.a_Search_sketches rfl (e_var (s := sSearch K m piece ts) rfl))) (fun p => b_t2 b_name b_name)
    (fun _ => [some (sMach K m), some (sNs ea), some (sNs la), some (sPiece piece), some (sSearch K m piece ts), some (sInts (placesF m.first piece SS.none la none).2), some (sRows table), some (sRef b2.p), some (sRef l), some (sRef lo), none, none, none, none, none, none, none, none])
    (fun i u => Le w5 u ∧ SearchAt K m [] b2 (((numbered ts.sks).take i).foldl (linkStep m.first ea) (SS.none, [], [])).1 u ∧ Own .nil l (fun e : List Nat => sInts e) (((numbered ts.sks).take i).foldl (linkStep m.first ea) (SS.none, [], [])).2.1 u ∧ Own .nil lo (fun n : Nat => sNat n) (((numbered ts.sks).take i).foldl (linkStep m.first ea) (SS.none, [], [])).2.2 u)
    (fun i u1 u2 h l => ⟨h.1.trans l, h.2.1.up l, h.2.2.1.up l, h.2.2.2.up l⟩) (fun u lu ou => ⟨ou, l6.trans (l7.trans (l8.trans lu)), sa8.up lu, (ow7.up l8).up lu, ow8.up lu⟩) (fun i p σ9 u hp9 o9 h N hN => ?_) (fun σ9 u o9 h => ?_)
  · obtain ⟨Lu, sau, owl, owo⟩ := h
    have hi : i < ts.sks.length := by have := (List.getElem?_eq_some_iff.mp hp9).1; rw [enumN_length] at this; exact this
    obtain ⟨iv, e1, e2, _, _⟩ := links_all (m := m) (earlier := ea) (sks := ts.sks) he.1 okS i (by omega) _ rfl
    have hstep : ((numbered ts.sks).take (i + 1)).foldl (linkStep m.first ea) (SS.none, [], []) = linkStep m.first ea (((numbered ts.sks).take i).foldl (linkStep m.first ea) (SS.none, [], [])) p := by
      rw [List.take_add_one, show (numbered ts.sks)[i]? = some p from hp9, List.foldl_append]
      rfl
    generalize ((numbered ts.sks).take i).foldl (linkStep m.first ea) (SS.none, [], []) = y at *
    obtain ⟨ep1, ep2⟩ := enumN_at hp9
    have okp : OkSk m.sizes p.2 := okS _ (List.mem_of_getElem? ep2)
    have fewY := iv.st.few hm
    have o9 : EnvOk u.G σ9 [some (sMach K m), some (sNs ea), some (sNs la), some (sPiece piece), some (sSearch K m piece ts), some (sInts (placesF m.first piece SS.none la none).2), some (sRows table), some (sRef b2.p), some (sRef l), some (sRef lo), some (sNat p.1), some (sNs p.2), none, none, none, none, none, none] := o9
    refine q_set (s := sOpt sNs (meetF p.2 ea)) o9 (e_call (p.2, ea) (by show p.2.length ≤ 1000; rw [okp.1]; have := hm.few; omega) (ea_cons (e_var rfl) (ea_cons (e_var rfl) ea_nil))) fun σ10 w10 l10 o10 => ?_
    -- what the two cases share
    have rest : ∀ (D : Ends), D.nx = N → ∀ (y1 : SS) (e : List Nat) (σ' : L2.St) (u3 : Wd) (s : Slot), linkStep m.first ea y p = (y1, y.2.1 ++ [e], y.2.2 ++ List.replicate (y1.sks.length - y.2.2.length) p.1) → StOk m.sizes y1 → y.2.2.length ≤ y1.sks.length → Gx u u3 → Le w5 u3 → SearchAt K m [] b2 y1 u3 → Own .nil l (fun e : List Nat => sInts e) (y.2.1 ++ [e]) u3 → Own .nil lo (fun n : Nat => sNat n) y.2.2 u3 →
        EnvOk u3.G σ' [some (sMach K m), some (sNs ea), some (sNs la), some (sPiece piece), some (sSearch K m piece ts), some (sInts (placesF m.first piece SS.none la none).2), some (sRows table), some (sRef b2.p), some (sRef l), some (sRef lo), some (sNat p.1), some (sNs p.2), some s, none, none, none, none, none] →
        tAug 9 (tOp rRep (tLst (tCons (tVar 10) tNil)) (tOp (rI0 fun i j => .int (i - j)) (tCB (rLenS K) (tCons (tFld K (tVar 7) "sketches") tNil)) (tCB (rLenS K) (tCons (tVar 9) tNil)))) rExt2 D σ' u3.H := fun D hD y1 e σ' u3 s es st1 hle gu Lu3 sa3 owl3 owo3 o3 => by
      have few1 := st1.few hm
      refine s_augL (i := 9) (ys := List.replicate (y1.sks.length - y.2.2.length) p.1) o3 rfl owo3 (el_rep (R := fun n : Nat => sNat n) (by omega) (el_one (R := fun n : Nat => sNat n) (e_var (s := sNat p.1) rfl)).e (e_minus hle (e_lenOw sa3.sk (e_fldOw sa3.ins T.c_Search T.a_Search_sketches rfl (e_var rfl))) (e_lenOw owo3 (e_var rfl)))) (by rw [List.length_replicate]; omega) fun σ'' u4 l4 owo4 o4 => ?_
      rw [hD]
      refine hN σ'' u4 _ o4 (fun o => ((o.drop 10).drop 11).drop 12) ⟨?_, ?_, ?_, ?_⟩ fun a o q => l4.g a o (gu a o q)
      · exact Le.thenB Lu3 l4 fun x hx => by rw [List.mem_singleton.mp hx]; exact flo
      · rw [hstep, es]
        exact sa3.upB l4 mB
      · rw [hstep, es]
        exact owl3.nilB l4 fun m => nl (List.mem_singleton.mp m)
      · rw [hstep, es]
        exact owo4
    have hlz : y.2.1.length ≤ 1000000 := by rw [e2]; omega
    cases em : meetF p.2 ea with
    | none =>
      rw [em] at o10
      refine qq_appX (x := []) (Post := fun u1 u2 => Le u1 u2) o10 (owl.up l10) hlz (e_var rfl) (fun u1 lu ou => ?_) fun u1 u2 u3 lu lp l4 ow4 => ?_
      · refine x_if (b := true) ou (t_test (e_isN true (fun G v p => by rw [show v = V.non from p]; rfl) (e_var (s := sNon) rfl))) (fun _ u2 lu2 => ?_) (fun q => nomatch q)
        exact (R40.E.x (ou.up lu2) el_nil.e).imp fun v u3 ⟨l5, p5⟩ => ⟨lu2.trans l5, p5, owl.up (l10.trans (lu.trans (lu2.trans l5)))⟩
      · refine rest _ rfl y.1 [] σ10 u3 sNon (by unfold linkStep; rw [em]) iv.st (by omega) (fun a o q => l4.g a o (lp.g a o (lu.g a o (l10.g a o q)))) ?_ ?_ ow4 ?_ (((o10.up lu).up lp).up l4)
        · exact Le.thenB (Lu.trans (l10.trans (lu.trans lp))) l4 fun x hx => by rw [List.mem_singleton.mp hx]; exact fl
        · exact (sau.up (l10.trans (lu.trans lp))).upB l4 nB
        · exact (owo.up (l10.trans (lu.trans lp))).nilB l4 fun m => nl (List.mem_singleton.mp m).symm
    | some both =>
      rw [em] at o10
      have okb : OkSk m.sizes both := meet_ok okp he.1 em
      have g1 : Grown y.1 (placeF m.first y.1 both none).1 := place_grown
      refine qq_appX (x := [(placeF m.first y.1 both none).2]) (Post := fun u1 u2 => LeB b2.B u1 u2 ∧ SearchAt K m [] b2 (placeF m.first y.1 both none).1 u2) o10 (owl.up l10) hlz (e_var rfl) (fun u1 lu ou => ?_) fun u1 u2 u3 lu ⟨lp, sp⟩ l4 ow4 => ?_
      · refine x_if (b := false) ou (t_test (e_isN false (fun G v p => by rw [decide_eq_false (tup_ne both G v p)]) (e_var (s := sNs both) rfl))) (fun q => nomatch q) (fun _ u2 lu2 => ?_)
        refine (x_one (R := fun n : Nat => sNat n) (x := (placeF m.first y.1 both none).2) (Post := fun u3 => LeB b2.B u2 u3 ∧ SearchAt K m [] b2 (placeF m.first y.1 both none).1 u3)
          ((x_meth (both, none) (ou.up lu2) (sau.up (l10.trans (lu.trans lu2))) ⟨hm, okb, iv.st⟩ rfl (e_var rfl) (ea_cons (e_var rfl) (ea_cons (R40.E.imp (s := sNon) e_c fun _ _ h => h) ea_nil))).imp fun v u3 ⟨a1, a2, a3⟩ => ⟨⟨a1, a2⟩, a3⟩)
          (fun u3 u4 h l => ⟨h.1.trans (LeB.up l), h.2.up l⟩)).imp fun v u3 ⟨⟨a1, a2⟩, a3⟩ => ⟨⟨(LeB.up lu2).trans a1, a2⟩, a3, (owl.up (l10.trans (lu.trans lu2))).nilB a1 nB2⟩
      · refine rest _ rfl (placeF m.first y.1 both none).1 [(placeF m.first y.1 both none).2] σ10 u3 (sNs both) (by unfold linkStep; rw [em]) (place_ok iv.st okb) (by have := g1.le; omega) (fun a o q => l4.g a o (lp.g a o (lu.g a o (l10.g a o q)))) ?_ ?_ ow4 ?_ (((o10.up lu).up lp).up l4)
        · exact Le.thenB (Le.thenB (Lu.trans (l10.trans lu)) lp fB) l4 fun x hx => by rw [List.mem_singleton.mp hx]; exact fl
        · exact sp.upB l4 nB
        · exact ((owo.up (l10.trans lu)).nilB lp mB2).nilB l4 fun m => nl (List.mem_singleton.mp m).symm
  obtain ⟨Lu, sau, owl, owo⟩ := h
  have etake : (numbered ts.sks).take (enumN ts.sks).length = numbered ts.sks := List.take_length
  rw [etake] at sau owl owo
  have elk : (numbered ts.sks).foldl (linkStep m.first ea) (SS.none, [], []) = linksF m.first ea ts.sks := rfl
  rw [elk] at sau owl owo
  obtain ⟨iv, q1, q2, q3, _⟩ := links_all (m := m) (earlier := ea) (sks := ts.sks) he.1 okS ts.sks.length (Nat.le_refl _) (linksF m.first ea ts.sks) (by
    have : (numbered ts.sks).take ts.sks.length = numbered ts.sks := by
      have e : (numbered ts.sks).length = ts.sks.length := enumN_length
      exact e ▸ List.take_length
    rw [this, elk])
  generalize hlk : linksF m.first ea ts.sks = lk at *
  -- steps
  refine q_setL (R := sRow) (xs := []) (w0 := .nil) nil_le o9 el_nil fun lt σ10 w10 l10 owt10 o10 n10 => ?_
  have sa10 := sau.up l10
  have tB : ∀ a ∈ b2.B, a ∉ [lt] := sau.new n10
  have tB2 : lt ∉ b2.B := fun m => tB lt m (List.mem_singleton.mpr rfl)
  have ntl : lt ≠ l := fun e => by
    obtain ⟨_, q, _⟩ := owl.at_
    rw [← e, n10] at q
    cases q
  have nto : lt ≠ lo := fun e => by
    obtain ⟨_, q, _⟩ := owo.at_
    rw [← e, n10] at q
    cases q
  have flt : w5.H lt = none := Le.free Lu n10
  have plenN : ∀ q ∈ ([] : List (List Nat)), q.length = m.sizes.length := fun q h => (nomatch h)
  refine q_while (ι := List (List (List Nat)) × SS) (fun x => 5000 - x.1.length)
    (fun _ => [some (sMach K m), some (sNs ea), some (sNs la), some (sPiece piece), some (sSearch K m piece ts), some (sInts (placesF m.first piece SS.none la none).2), some (sRows table), some (sRef b2.p), some (sRef l), some (sRef lo), none, none, none, some (sRef lt), none, none, none, none])
    (fun x u2 => Le w5 u2 ∧ RowsTo m [] lk.1 x.1 x.2 ∧ SearchAt K m [] b2 x.2 u2 ∧ Own .nil lt sRow x.1 u2 ∧ Own .nil l (fun e : List Nat => sInts e) lk.2.1 u2 ∧ Own .nil lo (fun n : Nat => sNat n) lk.2.2 u2) (fun x => decide (foundI x.2.found < 0) && decide (x.1.length < x.2.sks.length))
    ([], lk.1) o10 ⟨Lu.trans l10, .nil, sa10, owt10, owl.up l10, owo.up l10⟩ (fun x u1 u2 h l => ⟨h.1.trans l, h.2.1, h.2.2.1.up l, h.2.2.2.1.up l, h.2.2.2.2.1.up l, h.2.2.2.2.2.up l⟩)
    (fun x u h => t_and (t_test (e_I0 (g := fun i j => .bl (decide (i < j))) (i := foundI x.2.found) (j := 0) (e_fldOw h.2.2.1.ins T.c_Search T.a_Search_found rfl (e_var rfl)) e_c)) fun _ => t_ltN (e_lenOw h.2.2.2.1 (e_var rfl)) (e_lenOw h.2.2.1.sk (e_fldOw h.2.2.1.ins T.c_Search T.a_Search_sketches rfl (e_var rfl)))) (fun x σ2 u c o2 h N hN => ?_) (fun x σ2 u c o2 h => ?_)
  · obtain ⟨rows, t2⟩ := x
    obtain ⟨lu, hR2, s2, ow, owl2, owo2⟩ := h
    have lu : Le w5 u := lu
    have hR2 : RowsTo m [] lk.1 rows t2 := hR2
    have s2 : SearchAt K m [] b2 t2 u := s2
    have ow : Own .nil lt sRow rows u := ow
    have c : (decide (foundI t2.found < 0) && decide (rows.length < t2.sks.length)) = true := c
    rw [Bool.and_eq_true] at c
    have c : rows.length < t2.sks.length := of_decide_eq_true c.2
    obtain ⟨i2, g2, le2, _⟩ := rows_all plenN iv hR2
    have few := i2.st.few hm
    refine q_appX (x := (rowF m [] t2 rows.length).2) (Post := fun u1 u2 => LeB b2.B u1 u2 ∧ SearchAt K m [] b2 (rowF m [] t2 rows.length).1 u2) o2 ow (by omega) (e_var rfl) (fun u1 l3 o3 => ?_) (fun u1 u2 u3 l3 ⟨lp, sp⟩ l4 ow4 => ?_)
    · exact (x_meth rows.length o3 (s2.up l3) ⟨hm, hpn, i2.st, c⟩ rfl (e_var rfl) (ea_cons (e_lenOw (ow.up l3) (e_var rfl)) ea_nil)).imp fun v u2 ⟨a1, a2, a3⟩ => ⟨⟨a1, a2⟩, a3, (ow.up l3).nilB a1 tB2⟩
    · refine hN (rows ++ [(rowF m [] t2 rows.length).2], (rowF m [] t2 rows.length).1) σ2 u3 ?_ (((o2.up l3).up lp).up l4) ⟨?_, hR2.snoc c, sp.upB l4 tB, ow4, ?_, ?_⟩
      · show 5000 - (rows ++ [_]).length < 5000 - rows.length
        rw [List.length_append]
        show 5000 - (rows.length + 1) < _
        omega
      · exact Le.thenB (Le.thenB (lu.trans l3) lp fB) l4 fun x hx => by rw [List.mem_singleton.mp hx]; exact flt
      · exact ((owl2.up l3).nilB lp nB2).nilB l4 fun m => ntl (List.mem_singleton.mp m).symm
      · exact ((owo2.up l3).nilB lp mB2).nilB l4 fun m => nto (List.mem_singleton.mp m).symm
  obtain ⟨steps, tb⟩ := x
  obtain ⟨lu, hR2, s2, ow, owl2, owo2⟩ := h
  have lu : Le w5 u := lu
  have hR2 : RowsTo m [] lk.1 steps tb := hR2
  have s2 : SearchAt K m [] b2 tb u := s2
  have ow : Own .nil lt sRow steps u := ow
  have c : (decide (foundI tb.found < 0) && decide (steps.length < tb.sks.length)) = false := c
  obtain ⟨ib, gb, leb, rb⟩ := rows_all plenN iv hR2
  have fewb := ib.st.few hm
  -- back, links, owners, steps come to rest
  obtain ⟨u1, e1, l1', p1⟩ := s2.rest
  rw [← e1]
  have owl3 := owl2.nilB l1' nB2
  have owo3 := owo2.nilB l1' mB2
  have owt3 := ow.nilB l1' tB2
  obtain ⟨u2, e2, l2', p2, _⟩ := owl3.rest
  rw [← e2]
  have owo4 := owo3.nilB l2' fun m => nl (List.mem_singleton.mp m).symm
  have owt4 := owt3.nilB l2' fun m => ntl (List.mem_singleton.mp m)
  obtain ⟨u3, e3, l3', p3', _⟩ := owo4.rest
  rw [← e3]
  have owt5 := owt4.nilB l3' fun m => nto (List.mem_singleton.mp m)
  obtain ⟨u4, e4, l4', p4', _⟩ := owt5.rest
  rw [← e4]
  have L4 : Le w5 u4 := Le.thenB (Le.thenB (Le.thenB (Le.thenB lu l1' fB) l2' fun x hx => by rw [List.mem_singleton.mp hx]; exact fl) l3' fun x hx => by rw [List.mem_singleton.mp hx]; exact flo) l4' fun x hx => by rw [List.mem_singleton.mp hx]; exact flt
  have gg : ∀ a o, u1.G a = some o → u4.G a = some o := fun a o q => l4'.g a o (l3'.g a o (l2'.g a o q))
  have o4 : EnvOk u4.G σ2 [some (sMach K m), some (sNs ea), some (sNs la), some (sPiece piece), some (sSearch K m piece ts), some (sInts (placesF m.first piece SS.none la none).2), some (sRows table), some (sSearch K m [] tb), some (sRow lk.2.1), some (sInts lk.2.2), none, none, none, some (sRows steps), none, none, none, none] := by
    have z : EnvOk u4.G σ2 _ := o2.mono fun a o q => gg a o (l1'.g a o q)
    have z := z.imp (i := 7) (s := sRef b2.p) (t := sSearch K m [] tb) rfl fun v e => by cases e; exact Slot.mono _ gg p1
    have z := z.imp (i := 8) (s := sRef l) (t := sRow lk.2.1) rfl fun v e => by cases e; exact Slot.mono _ (fun a o q => l4'.g a o (l3'.g a o q)) p2
    have z := z.imp (i := 9) (s := sRef lo) (t := sInts lk.2.2) rfl fun v e => by cases e; exact Slot.mono _ l4'.g p3'
    have z := z.imp (i := 13) (s := sRef lt) (t := sRows steps) rfl fun v e => by cases e; exact p4'
    exact z
  have L0 : Le w0 u4 := L5.trans L4
  refine q_if (b := decide (foundI tb.found < 0)) o4 (t_test (e_I0 (g := fun i j => .bl (decide (i < j))) (i := foundI tb.found) (j := 0) (e_fld T.c_Search T.a_Search_found rfl (e_var (s := sSearch K m [] tb) rfl)) e_c)) (fun q u5 l5' o5' => ?_) (fun q u5 l5' o5' => ?_)
  · have ef : tb.found = none := by
      cases e : tb.found with
      | none => rfl
      | some f =>
        rw [e] at q
        have q := of_decide_eq_true q
        simp only [foundI] at q
        omega
    have elen : steps.length = tb.sks.length := by
      rw [q, Bool.true_and] at c
      have := of_decide_eq_false c
      omega
    have hT : Tells m ea la piece (.told ts.sks (placesF m.first piece SS.none la none).2 table (linksF m.first ea ts.sks).2.1 tb.sks steps) := .told hR hlen (by rw [hlk]; exact hR2) ef elen
    rw [hlk] at hT
    have okB : BetOk ⟨ts.sks, (placesF m.first piece SS.none la none).2, table, lk.2.1, tb.sks, steps⟩ := by
      have hd := hm.deeds
      refine ⟨⟨by show ts.sks.length ≤ _; omega, by show table.length ≤ _; omega, fun r hr => ?_⟩, ⟨by show tb.sks.length ≤ _; omega, by show steps.length ≤ _; omega, fun r hr => ?_⟩, by show lk.2.1.length ≤ _; omega⟩
      · obtain ⟨n, hn⟩ := List.mem_iff_getElem?.mp hr
        have hn2 : n < ts.sks.length := by rw [← hlen]; exact (List.getElem?_eq_some_iff.mp hn).1
        rw [(r4 n _ r hn (List.getElem?_eq_getElem hn2)).len]
        omega
      · obtain ⟨n, hn⟩ := List.mem_iff_getElem?.mp hr
        have hn2 : n < tb.sks.length := by rw [← elen]; exact (List.getElem?_eq_some_iff.mp hn).1
        rw [(rb n _ r hn (List.getElem?_eq_getElem hn2)).len]
        omega
    refine q_set (s := sBetween K ⟨ts.sks, (placesF m.first piece SS.none la none).2, table, lk.2.1, tb.sks, steps⟩) o5' (e_make (⟨ts.sks, (placesF m.first piece SS.none la none).2, table, lk.2.1, tb.sks, steps⟩ : BetIn) okB
      (ea_cons (e_fld T.c_Search T.a_Search_sketches rfl (e_var (s := sSearch K m piece ts) rfl)) (ea_cons (e_var rfl) (ea_cons (e_var rfl) (ea_cons (e_var rfl) (ea_cons (e_fld T.c_Search T.a_Search_sketches rfl (e_var (s := sSearch K m [] tb) rfl)) (ea_cons (e_var rfl) ea_nil))))))) fun σ6' u6 l6' o6' => ?_
    refine s_ret o6' (e_make (AnsIn.told ⟨ts.sks, (placesF m.first piece SS.none la none).2, table, lk.2.1, tb.sks, steps⟩) trivial (ea_cons e_c (ea_cons (e_var rfl) (ea_cons e_c (ea_cons e_c (ea_cons e_c ea_nil)))))) fun v u7 l7' p7 => k _ v u7 hT (L0.trans (l5'.trans (l6'.trans l7'))) p7
  · obtain ⟨f, ef⟩ : ∃ f, tb.found = some f := by
      cases e : tb.found with
      | some f => exact ⟨f, rfl⟩
      | none =>
        rw [e] at q
        exact absurd q (by decide)
    obtain ⟨s, cc, hs1, hs2⟩ := ib.found f ef
    have backb : ∀ (n d j : Nat), tb.org[n]? = some (some (d, j)) → j < n := fun n d j h => (ib.src n d j h).1
    have backs : ∀ (n d j : Nat), ts.org[n]? = some (some (d, j)) → j < n := fun n d j h => (i4.src n d j h).1
    have lenb := ib.st.len
    have lens := i4.st.len
    have hfl : f < tb.org.length := by rw [lenb]; exact (List.getElem?_eq_some_iff.mp hs1).1
    refine q_let (R40.E.x o5' (e_methO (⟨m, [], tb, f, s, cc⟩ : HisIn) ⟨hm, ef, hs1, ib.st.ok s (List.mem_of_getElem? hs1), hs2, backb, lenb, by show tb.org.length ≤ _; omega⟩ rfl rfl (e_var (s := sSearch K m [] tb) rfl) ea_nil)) fun v6 u6 ⟨l6', ⟨disk, ds1⟩, ⟨hleast, e, hway⟩, p6⟩ => ?_
    have hleast : LeastF cc disk := hleast
    have hway : WayF tb.org f ds1 e := hway
    refine b_t2 (s := sNs disk) (t := sInts ds1) (b_name (i := 15)) (b_name (i := 16)) v6 σ2 u6 _ p6 (o5'.up l6') _ fun σ7 o7' _ _ => ?_
    have o7' : EnvOk u6.G σ7 [some (sMach K m), some (sNs ea), some (sNs la), some (sPiece piece), some (sSearch K m piece ts), some (sInts (placesF m.first piece SS.none la none).2), some (sRows table), some (sSearch K m [] tb), some (sRow lk.2.1), some (sInts lk.2.2), none, none, none, some (sRows steps), none, some (sNs disk), some (sInts ds1), none] := o7'
    -- whose start it is
    have hroot : tb.org[e]? = some none := way_last hway
    obtain ⟨_, _, owner, s0, ho, hs0, _⟩ := ib.root e hroot
    have hfd : (f : Int) = foundI tb.found := by rw [ef]; rfl
    refine q_set (s := sNat owner) o7' (fun σ' w1' lw ow' Q' q' => ?_) fun σ8' u8 l8' o8' => ?_
    · refine e_var (s := sInts lk.2.2) (i := 9) rfl σ' w1' lw ow' _ fun v w2' l2'' pv => ?_
      refine e_call (⟨m, [], tb, f⟩ : WayIn) ⟨backb, hfl, by show tb.org.length ≤ _; omega⟩ (ea_cons (e_var (s := sSearch K m [] tb) (i := 7) rfl) (ea_cons (e_is (e_fld T.c_Search T.a_Search_found rfl (e_var (s := sSearch K m [] tb) (i := 7) rfl)) (show sInt (foundI tb.found) = sNat f by rw [ef]; rfl)) ea_nil)) σ' w2' (lw.trans l2'') (ow'.up l2'') _ fun y w3' l3'' py => ?_
      obtain ⟨e', ⟨ds', hw'⟩, pe⟩ := py
      have ee : e' = e := (WayF.det hw' hway).2
      subst ee
      cases pe
      obtain ⟨a, vs, rfl, ha, r⟩ := Slot.up l3'' pv
      obtain ⟨z, hz, rz⟩ := r.get ho
      exact ⟨a, vs, _, z, rfl, rfl, SqL.of (w3'.sub _ _ ha), atI_of hz, q' z w3' (l2''.trans l3'') rz⟩
    have hol : owner < ts.org.length := by rw [lens]; exact (List.getElem?_eq_some_iff.mp hs0).1
    have o8' : EnvOk u8.G σ8' [some (sMach K m), some (sNs ea), some (sNs la), some (sPiece piece), some (sSearch K m piece ts), some (sInts (placesF m.first piece SS.none la none).2), some (sRows table), some (sSearch K m [] tb), some (sRow lk.2.1), some (sInts lk.2.2), none, none, none, some (sRows steps), none, some (sNs disk), some (sInts ds1), some (sNat owner)] := o8'
    have hl1 : ds1.length ≤ f := way_len backb hway
    have hcat : R40.E (tOp rCat (tVar 16) (tCall (spWay K) [] E0 (tCons (tVar 4) (tCons (tVar 17) tNil)))) [some (sMach K m), some (sNs ea), some (sNs la), some (sPiece piece), some (sSearch K m piece ts), some (sInts (placesF m.first piece SS.none la none).2), some (sRows table), some (sSearch K m [] tb), some (sRow lk.2.1), some (sInts lk.2.2), none, none, none, some (sRows steps), none, some (sNs disk), some (sInts ds1), some (sNat owner)] u8
        (sEx (fun ds2 : List Nat => ∃ e2, WayF ts.org owner ds2 e2) (fun ds2 => sInts (ds1 ++ ds2))) := fun σ' w1' lw ow' Q' q' => by
      refine e_var (s := sInts ds1) (i := 16) rfl σ' w1' lw ow' _ fun v w2' l2'' pv => ?_
      refine e_call (⟨m, piece, ts, owner⟩ : WayIn) ⟨backs, hol, by show ts.org.length ≤ _; omega⟩ (ea_cons (e_var (s := sSearch K m piece ts) (i := 4) rfl) (ea_cons (e_var (s := sNat owner) (i := 17) rfl) ea_nil)) σ' w2' (lw.trans l2'') (ow'.up l2'') _ fun y w3' l3'' py => ?_
      obtain ⟨ds2, ⟨e2, hw2⟩, pe⟩ := py
      have hw2 : WayF ts.org owner ds2 e2 := hw2
      have hl2 : ds2.length ≤ owner := way_len backs hw2
      obtain ⟨a, vs, rfl, h, r⟩ := Slot.up l3'' pv
      obtain ⟨b', us, rfl, h', r'⟩ := pe
      refine ⟨a, b', vs, us, rfl, rfl, w3'.sub _ _ h, w3'.sub _ _ h', ?_, fun c nc => ?_⟩
      · have e1 : vs.length = ds1.length := r.len
        have e2 : us.length = ds2.length := r'.len
        rw [e1, e2]
        exact Nat.le_trans (by omega : ds1.length + ds2.length ≤ 1000000) (by decide)
      · exact q' (.ref c) (w3'.new c (.lst (vs ++ us))) (l2''.trans (l3''.trans (Wd.le_new nc))) ⟨ds2, ⟨e2, hw2⟩, c, _, rfl, upd_same, (r.append r').mono (Wd.le_new (o := .lst (vs ++ us)) nc).g⟩
    refine x_makeA (Rx := fun x => ∃ (ds2 : List Nat) (e2 : Nat), WayF ts.org owner ds2 e2 ∧ x = AnsIn.not disk (ds1 ++ ds2) ds1.length) (fun Q' q' => ?_) _ fun v u9 ⟨x, ⟨ds2, e2, hw2, ex⟩, l9, p9⟩ => ?_
    · refine e_c (v := .bl false) σ8' u8 .refl o8' _ fun v1 y1 m1 r1 => ?_
      refine e_c (v := .non) σ8' y1 m1 (o8'.up m1) _ fun v2 y2 m2 r2 => ?_
      refine e_var (s := sNs disk) (i := 15) rfl σ8' y2 (m1.trans m2) ((o8'.up m1).up m2) _ fun v3 y3 m3 r3 => ?_
      refine hcat σ8' y3 (m1.trans (m2.trans m3)) (((o8'.up m1).up m2).up m3) _ fun v4 y4 m4 r4 => ?_
      obtain ⟨ds2, ⟨e2, hw2⟩, r4⟩ := r4
      refine e_lenL (R := fun n : Nat => sNat n) (e_var (s := sInts ds1) (i := 16) rfl) σ8' y4 (m1.trans (m2.trans (m3.trans m4))) ((((o8'.up m1).up m2).up m3).up m4) _ fun v5 y5 m5 r5 => ?_
      refine q' [v1, v2, v3, v4, v5] y5 (AnsIn.not disk (ds1 ++ ds2) ds1.length) (m1.trans (m2.trans (m3.trans (m4.trans m5)))) ⟨ds2, e2, hw2, rfl⟩ trivial ?_
      exact .cons r1 (.cons r2 (.cons (Slot.up (m4.trans m5) r3) (.cons (Slot.up m5 r4) (.cons r5 .nil))))
    · subst ex
      refine k (.not disk (ds1 ++ ds2) ds1.length) v u9 (.not hR hlen (by rw [hlk]; exact hR2) ef hs1 hs2 hleast hway (by rw [hlk]; exact ho) hw2) (L0.trans (l5'.trans (l6'.trans (l8'.trans l9)))) p9
end
end R40

set_option Elab.async false
set_option linter.all false
set_option maxRecDepth 100000
set_option maxHeartbeats 4000000
/-! The law's numbers: general rules; walks: cell, mix, is_int, mask, deed. -/
namespace R40
open PySem PySem.Spec PyProof.Rows L2 M40
theorem Rd.mono {G G' : Hp} {a : Addr} {o : HO} (k : ∀ a o, G a = some o → G' a = some o) (h : Rd G a o) : Rd G' a o := by
  rcases h with h | ⟨o2, h⟩
  · exact .inl (k _ _ h)
  · exact .inr ⟨o2, k _ _ h⟩
theorem SqL.mono {K : PySem.W.Frag} {G G' : Hp} {a : Addr} {xs : List V} (k : ∀ a o, G a = some o → G' a = some o) (h : SqL K G a xs) : SqL K G' a xs := by
  rcases h with h | h
  · exact .inl (Rd.mono k h)
  · exact .inr h
/-- the script -/
def sScr (K : PySem.W.Frag) (ns : List Int) : Slot := ⟨fun G v => ∃ a, v = .ref a ∧ SqL K G a (ns.map V.int), fun k ⟨a, e, h⟩ => ⟨a, e, SqL.mono k h⟩⟩
/-- items told by existence, told -/
theorem allEx {α β : Type} {p : α → β → Prop} {S : α → β → Slot} {G : Hp} : ∀ {vs : List V} {xs : List α}, AllR (fun x => sEx (p x) (S x)) G vs xs → ∃ ys : List β, ys.length = xs.length ∧ (∀ (i : Nat) (x : α) (y : β), xs[i]? = some x → ys[i]? = some y → p x y) ∧ ∀ (i : Nat) (v : V) (x : α) (y : β), vs[i]? = some v → xs[i]? = some x → ys[i]? = some y → (S x y).P G v
  | vs, [], h => ⟨[], rfl, fun i x y a => by simp at a, fun i v x y _ a => by simp at a⟩
  | [], x :: r, h => by cases h.len
  | v :: vs, x :: r, h => by
    obtain ⟨ys, e, a, b⟩ := allEx (p := p) (S := S) (vs := vs) (xs := r) ⟨Nat.succ.inj h.len, fun i u y q1 q2 => h.at_ (i + 1) u y q1 q2⟩
    obtain ⟨y, py, sy⟩ := h.at_ 0 v x rfl rfl
    refine ⟨y :: ys, congrArg (· + 1) e, fun i x' y' q1 q2 => ?_, fun i v' x' y' q0 q1 q2 => ?_⟩
    · cases i with
      | zero =>
        cases q1
        cases q2
        exact py
      | succ n => exact a n x' y' q1 q2
    · cases i with
      | zero =>
        cases q0
        cases q1
        cases q2
        exact sy
      | succ n => exact b n v' x' y' q0 q1 q2
section
variable {Γ : Env} {w : Wd} {s t u : Slot} {te ta tb tc : TE} {tt tu : TT} {K : PySem.W.Frag} {α β : Type} {R : α → Slot} {xs : List α} {D : Ends} {σ : L2.St} {ts ts1 ts2 tz : TS} {a b : Nat} {i j : Int}
theorem e_lenScr {ns : List Int} (ha : E ta Γ w (sScr K ns)) : E (tCB (rLenS K) (tCons ta tNil)) Γ w (sNat ns.length) := fun σ w1 l o Q q =>
  ha σ w1 l o _ fun v w2 l2 p => by
    obtain ⟨a, rfl, h⟩ := p
    exact ⟨a, _, rfl, .inl (SqL.mono w2.sub h), q _ w2 l2 (by rw [List.length_map]; rfl)⟩
theorem e_ixScr {ns : List Int} {k : Nat} {x : Int} (hx : ns[k]? = some x) (ha : E ta Γ w (sScr K ns)) (hb : E tb Γ w (sNat k)) : E (tOp (rIxL K) ta tb) Γ w (sInt x) :=
  e_op ha hb fun w2 v y Q _ p p' q => by
    obtain ⟨a, rfl, h⟩ := p
    cases p'
    exact ⟨a, _, _, .int x, rfl, rfl, SqL.mono w2.sub h, atI_of (by rw [List.getElem?_map, hx]; rfl), q _ w2 .refl rfl⟩
abbrev rInt1 : List V → Hp → VK → Prop := fun xs H Q => (∃ i, xs = [.int i] ∧ Q (.int i) H) ∨ ∃ k, xs = [.bl k] ∧ Q (.int (if k then 1 else 0)) H
theorem e_int1 (h : E ta Γ w (sInt i)) : E (tCB rInt1 (tCons ta tNil)) Γ w (sInt i) := fun σ w1 l o Q q => h σ w1 l o _ fun v w2 l2 p => by
  cases p
  exact .inl ⟨i, rfl, q _ w2 l2 rfl⟩
theorem e_timesI (hc : CMul i j) (ha : E ta Γ w (sInt i)) (hb : E tb Γ w (sInt j)) : E (tOp rTimes ta tb) Γ w (sInt (i * j)) := e_I (C := CMul) (g := fun i j => .int (i * j)) hc ha hb
theorem e_plusI (ha : E ta Γ w (sInt i)) (hb : E tb Γ w (sInt j)) : E (tOp rPlus ta tb) Γ w (sInt (i + j)) := e_I0 (g := fun i j => .int (i + j)) ha hb
theorem e_modI (hj : 0 < j) (ha : E ta Γ w (sInt i)) (hb : E tb Γ w (sInt j)) : E (tOp rMod ta tb) Γ w (sInt (i % j)) := e_I (C := fun _ j => 0 < j) (g := fun i j => .int (i % j)) hj ha hb
theorem e_fdivI (hj : 0 < j ∧ j < 1073741824) (ha : E ta Γ w (sInt i)) (hb : E tb Γ w (sInt j)) : E (tOp rFdiv ta tb) Γ w (sInt (i / j)) := e_I (C := CDiv) (g := fun i j => .int (i / j)) hj ha hb
theorem e_modN (hb0 : 0 < b) (ha : E ta Γ w (sNat a)) (hb : E tb Γ w (sNat b)) : E (tOp rMod ta tb) Γ w (sNat (a % b)) := e_is (e_modI (by omega) ha hb) (by rw [← Int.natCast_emod])
theorem e_fdivN (hb0 : 0 < b ∧ b < 1073741824) (ha : E ta Γ w (sNat a)) (hb : E tb Γ w (sNat b)) : E (tOp rFdiv ta tb) Γ w (sNat (a / b)) := e_is (e_fdivI ⟨by omega, by omega⟩ ha hb) (by rw [← Int.natCast_ediv])
theorem e_timesN (hc : a < 2 ^ 64) (ha : E ta Γ w (sNat a)) (hb : E tb Γ w (sNat b)) : E (tOp rTimes ta tb) Γ w (sNat (a * b)) := e_is (e_timesI (.inl ⟨by omega, by omega⟩) ha hb) (by rw [← Int.natCast_mul])
/-- an if whose two ways meet again -/
theorem q_ifJ {bb : Bool} (J : L2.St → Wd → Prop) (o : EnvOk w.G σ Γ) (h : ET tt Γ w bb) (h1 : bb = true → ∀ w2 : Wd, Le w w2 → EnvOk w2.G σ Γ → ∀ N : L2.St → Hp → Prop, (∀ σ' w', J σ' w' → N σ' w'.H) → ts1 { D with nx := N } σ w2.H)
    (h2 : bb = false → ∀ w2 : Wd, Le w w2 → EnvOk w2.G σ Γ → J σ w2) (k : ∀ (σ' : L2.St) (w' : Wd), J σ' w' → tz D σ' w'.H) : tSeq (tIfS tt ts1 tNext) tz D σ w.H :=
  q_if o h (fun e w2 l o2 => h1 e w2 l o2 _ k) fun e w2 l o2 => k σ w2 (h2 e w2 l o2)
end
section
variable {P : Program} {w : World} {K : PySem.W.Frag} {mg : Str → Option Value} {base : Heap}
def cellI (ns : List Int) (k : Nat) : Int := ns.getD k 0
abbrev spLCell (K : PySem.W.Frag) : Sp := spP (fun _ : List Int × Nat => True) (fun x => [sScr K x.1, sNat x.2]) (fun x => sInt (cellI x.1 x.2))
theorem ok__law_cell (T : Txt K mg) : Ok__law_cell P w K mg base (spLCell K) := by
  refine okP T.f__law_cell sc__law_cell (fun _ => rfl) fun cdv A outer s H E hr => ⟨_, (pss_cons (ps_if (pt_cmpR op_lt (pv 1) (pe_callB call_len_seq (by rfl) T.n_len boot_len (pa_cons (pv 0) pa_nil)) (nomark _)) (pss_one (ps_ret (pe_callTy call_int1 (by rfl) T.n_int (by decide +kernel) (pa_cons (pe_ix ix_list (pv 0) (pv 1) (fun _ _ => rfl)) pa_nil)))) pss_nil) (pss_one (ps_ret pe_int))), ?_⟩
  rintro ⟨ns, i⟩ w0 σ Q _ o k
  have o : EnvOk w0.G σ [some (sScr K ns), some (sNat i)] := o
  have k : ∀ v w2, Le w0 w2 → (sInt (cellI ns i)).P w2.G v → Q v w2.H := k
  refine q_if o (t_ltN (e_var rfl) (e_lenScr (e_var rfl))) (fun q w1 l1 o1 => ?_) (fun q w1 l1 o1 => ?_)
  · have hi : i < ns.length := of_decide_eq_true q
    have hx : ns[i]? = some (cellI ns i) := by unfold cellI; rw [List.getD_eq_getElem?_getD, List.getElem?_eq_getElem hi]; rfl
    exact s_ret o1 (e_int1 (e_ixScr hx (e_var rfl) (e_var rfl))) fun v w2 l2 p => k v w2 (l1.trans l2) p
  · have hi : ¬ i < ns.length := of_decide_eq_false q
    have hx : cellI ns i = 0 := by unfold cellI; rw [List.getD_eq_getElem?_getD, List.getElem?_eq_none (by omega)]; rfl
    rw [hx] at k
    exact s_ret o1 (e_c (v := .int 0)) fun v w2 l2 p => k v w2 (l1.trans l2) p
def mixI (i : Int) (k : Nat) : Int := ((i * 48271 + (k : Int) * 69621 + 12345) % 2147483647 * 16807 + (k : Int) * 40692 + 777) % 2147483629 / 997
theorem mix_pos (i : Int) (k : Nat) : 0 ≤ mixI i k := Int.ediv_nonneg (Int.emod_nonneg _ (by decide)) (by decide)
def mixN (i : Int) (k : Nat) : Nat := (mixI i k).toNat
theorem mix_n (i : Int) (k : Nat) : sInt (mixI i k) = sNat (mixN i k) := by
  show sInt (mixI i k) = sInt (((mixI i k).toNat : Nat) : Int)
  rw [Int.toNat_of_nonneg (mix_pos i k)]
abbrev spLMix : Sp := spP (fun _ : Int × Nat => True) (fun x => [sInt x.1, sNat x.2]) (fun x => sNat (mixN x.1 x.2))
theorem cm (i j : Int) (h : -(2 ^ 64) < j ∧ j < 2 ^ 64 := by decide) : CMul i j := .inr h
theorem ok__law_mix (T : Txt K mg) : Ok__law_mix P w K mg base spLMix := by
  refine okP T.f__law_mix sc__law_mix (fun _ => rfl) fun cdv A outer s H E hr => ⟨_, (pss_cons (ps_set (i := 2) sc__law_mix.nd rfl (Or.inl rfl) (pe_op op_mod (pe_callTy call_int1 (by rfl) T.n_int (by decide +kernel) (pa_cons (pe_op op_add (pe_op op_add (pe_op op_mul (pv 0) pe_int) (pe_op op_mul (pv 1) pe_int)) pe_int) pa_nil)) pe_int)) (pss_cons (ps_set (i := 2) sc__law_mix.nd rfl (Or.inl rfl) (pe_op op_mod (pe_callTy call_int1 (by rfl) T.n_int (by decide +kernel) (pa_cons (pe_op op_add (pe_op op_add (pe_op op_mul (pv 2) pe_int) (pe_op op_mul (pv 1) pe_int)) pe_int) pa_nil)) pe_int)) (pss_one (ps_ret (pe_op op_fdiv (pv 2) pe_int))))), ?_⟩
  rintro ⟨i, j⟩ w0 σ Q _ o k
  have o : EnvOk w0.G σ [some (sInt i), some (sNat j), none] := o
  refine q_set o (e_modI (j := 2147483647) (by decide) (e_int1 (e_plusI (e_plusI (e_timesI (cm _ 48271) (e_var rfl) e_c) (e_timesI (cm _ 69621) (e_var (s := sInt (j : Int)) rfl) e_c)) e_c)) e_c) fun σ1 w1 l1 o1 => ?_
  refine q_set o1 (e_modI (j := 2147483629) (by decide) (e_int1 (e_plusI (e_plusI (e_timesI (cm _ 16807) (e_var rfl) e_c) (e_timesI (cm _ 40692) (e_var (s := sInt (j : Int)) rfl) e_c)) e_c)) e_c) fun σ2 w2 l2 o2 => ?_
  refine s_ret o2 (e_fdivI (j := 997) ⟨by decide, by decide⟩ (e_var rfl) e_c) fun v w3 l3 p => k v w3 (l1.trans (l2.trans l3)) ?_
  have q : (sInt (mixI i j)).P w3.G v := p
  rw [mix_n] at q
  exact q
/-- isinstance -/
theorem e_isi {Γ : Env} {w : Wd} {s : Slot} {ta : TE} {n : String} {b : Bool} (t : Value) (ht : ∀ (w : Wd) (v : V), s.P w.G v → TyX K w.H v t) (hk : PySem.W.kitOne K t (.type n) = some b) (ha : E ta Γ w s) : E (tCB (rIsi K) (tCons ta (tCons (tC (.ty n)) tNil))) Γ w (sBl b) := fun σ w1 l o Q q =>
  ha σ w1 l o _ fun v w2 l2 p => ⟨v, .ty n, t, .type n, b, rfl, .ty n, ht w2 v p, hk, q _ w2 l2 rfl⟩
theorem isi_int : PySem.W.kitOne K (.type "int") (.type "int") = some true := by kernel_rfl
theorem isi_bool : PySem.W.kitOne K (.type "bool") (.type "bool") = some true := by kernel_rfl
theorem isi_tuple : PySem.W.kitOne K (.type "tuple") (.type "tuple") = some true := by kernel_rfl
theorem isi_intbool : PySem.W.kitOne K (.type "int") (.type "bool") = some false := by kernel_rfl
abbrev spLIsInt : Sp := spP (fun _ : Int => True) (fun i => [sInt i]) (fun _ => sBl true)
theorem ok__law_is_int (T : Txt K mg) : Ok__law_is_int P w K mg base spLIsInt := by
  refine okP T.f__law_is_int sc__law_is_int (fun _ => rfl) fun cdv A outer s H E hr => ⟨_, (pss_one (ps_ret (pe_and (pe_callB call_isi (by rfl) T.n_isinstance (by decide +kernel) (pa_cons (pv 0) (pa_cons (pe_bltn (v := .ty "int") (by rfl) T.n_int boot_int rfl) pa_nil))) (pe_one (pe_not (pe_callB call_isi (by rfl) T.n_isinstance (by decide +kernel) (pa_cons (pv 0) (pa_cons (pe_bltn (v := .ty "bool") (by rfl) T.n_bool boot_bool rfl) pa_nil)))))))), ?_⟩
  rintro i w0 σ Q _ o k
  have o : EnvOk w0.G σ [some (sInt i)] := o
  have ti : ∀ (w : Wd) (v : V), (sInt i).P w.G v → TyX K w.H v (.type "int") := fun w v p => by
    cases p
    exact .base (.int i)
  exact s_ret o (e_andV (a := true) (b := true) (e_isi (.type "int") ti isi_int (e_var rfl)) fun _ => e_notV (a := false) (e_isi (.type "int") ti isi_intbool (e_var rfl))) fun v w2 l2 p => k v w2 l2 p
abbrev spLMask : Sp := spP (fun x : Nat × Nat => 1 ≤ x.2 ∧ x.2 ≤ 1000) (fun x => [sNat x.1, sNat x.2]) (fun x => sNat (1 + x.1 % (2 ^ x.2 - 1)))
theorem ok__law_mask (T : Txt K mg) : Ok__law_mask P w K mg base spLMask := by
  refine okP T.f__law_mask sc__law_mask (fun _ => rfl) fun cdv A outer s H E hr => ⟨_, (pss_one (ps_ret (pe_op op_add pe_int (pe_op op_mod (pv 0) (pe_op op_sub (pe_op op_shl pe_int (pv 1)) pe_int))))), ?_⟩
  rintro ⟨n, z⟩ w0 σ Q ⟨h1, h2⟩ o k
  have h1 : 1 ≤ z := h1
  have h2 : z ≤ 1000 := h2
  have o : EnvOk w0.G σ [some (sNat n), some (sNat z)] := o
  have hp : 0 < 2 ^ z - 1 := by
    have : 2 ^ 1 ≤ 2 ^ z := Nat.pow_le_pow_right (by decide) h1
    omega
  exact s_ret o (e_plus (e_n 1 1) (e_modN hp (e_var rfl) (e_full h2 (e_var rfl)))) fun v w2 l2 p => k v w2 l2 p
end
end R40

set_option Elab.async false
set_option linter.all false
set_option maxRecDepth 100000
set_option maxHeartbeats 4000000
/-! Walks: the law's deeds, parts, sketches, pieces. -/
namespace R40
open PySem PySem.Spec PyProof.Rows L2 M40
section
variable {Γ : Env} {w : Wd} {s t u : Slot} {te ta tb tc : TE} {tt tu : TT} {K : PySem.W.Frag} {α β : Type} {R : α → Slot} {xs : List α} {D : Ends} {σ : L2.St} {ts ts1 ts2 tz : TS} {a b : Nat} {i j : Int}
theorem e_addS {x y : Str} (hz : x.length + y.length ≤ sizeLine) (ha : E ta Γ w (sStr x)) (hb : E tb Γ w (sStr y)) : E (tOp (fun x y H Q => ∃ i j, x = .str i ∧ y = .str j ∧ i.length + j.length ≤ sizeLine ∧ Q (.str (i ++ j)) H) ta tb) Γ w (sStr (x ++ y)) :=
  e_op ha hb fun w2 v u Q _ p p' q => by
    cases p
    cases p'
    exact ⟨x, y, rfl, rfl, hz, q _ w2 .refl rfl⟩
theorem e_strI {n : Nat} (hn : n < 100) (ha : E ta Γ w (sNat n)) : E (tCB (fun xs H Q => ∃ i, xs = [.int i] ∧ i.natAbs.log2 < 1920 ∧ Q (.str (toString i)) H) (tCons ta tNil)) Γ w (sStr (toString (n : Int))) := fun σ w1 l o Q q => ha σ w1 l o _ fun v w2 l2 p => by
  cases p
  refine ⟨(n : Int), rfl, ?_, q _ w2 l2 rfl⟩
  rw [Int.natAbs_natCast]
  by_cases h : n = 0
  · subst h
    decide
  · have := (Nat.log2_lt h (k := 7)).mpr (by omega)
    omega
end
section
variable {P : Program} {w : World} {K : PySem.W.Frag} {mg : Str → Option Value} {base : Heap}
structure SzOk (z : List Nat) : Prop where
  pos : 1 ≤ z.length
  few : z.length ≤ 4
  size : ∀ i, i < z.length → 1 ≤ at0 z i ∧ at0 z i ≤ 3
theorem short : ∀ n : Fin 100, ("m" : Str).length + (toString ((n.val : Nat) : Int) : Str).length ≤ 20 := by decide +kernel
def nameM (n : Nat) : Str := "m" ++ (toString (n : Int) : Str)
theorem mask_ok {z n : Nat} (hz : 1 ≤ z) : 0 < 1 + n % (2 ^ z - 1) ∧ 1 + n % (2 ^ z - 1) < 2 ^ z := by
  have : 2 ^ 1 ≤ 2 ^ z := Nat.pow_le_pow_right (by decide) hz
  have h2 := Nat.mod_lt n (show 2 ^ z - 1 > 0 by omega)
  omega
/-- the deed so far -/
structure DOk (z : List Nat) (i j : Nat) (g : List (Nat × Nat)) (c : List (Nat × Src)) : Prop where
  ga : Asc (g.map (·.1))
  gi : ∀ p ∈ g, p.1 < i ∧ 0 < p.2 ∧ p.2 < 2 ^ at0 z p.1
  ca : Asc (c.map (·.1))
  ci : ∀ p ∈ c, p.1 < j ∧ OkSrc z p.1 p.2
  gl : g.length ≤ i
  cl : c.length ≤ j
theorem asc_snoc {l : List Nat} {x : Nat} (h : Asc l) (k : ∀ y ∈ l, y < x) : Asc (l ++ [x]) := by
  refine List.pairwise_append.mpr ⟨h, List.pairwise_singleton _ _, fun a ha b hb => ?_⟩
  rw [List.mem_singleton.mp hb]
  exact k a ha
theorem DOk.g1 {z : List Nat} {i j v : Nat} {g : List (Nat × Nat)} {c : List (Nat × Src)} (h : DOk z i j g c) (h1 : 0 < v) (h2 : v < 2 ^ at0 z i) : DOk z (i + 1) j (g ++ [(i, v)]) c := by
  refine ⟨?_, fun p hp => ?_, h.ca, h.ci, ?_, h.cl⟩
  · rw [List.map_append]
    exact asc_snoc h.ga fun y hy => by
      obtain ⟨p, hp, rfl⟩ := List.mem_map.mp hy
      exact (h.gi p hp).1
  · rcases List.mem_append.mp hp with hp | hp
    · have := h.gi p hp
      exact ⟨by omega, this.2⟩
    · rw [List.mem_singleton.mp hp]
      exact ⟨Nat.lt_succ_self _, h1, h2⟩
  · rw [List.length_append]
    have := h.gl
    show g.length + 1 ≤ i + 1
    omega
theorem DOk.g0 {z : List Nat} {i j : Nat} {g : List (Nat × Nat)} {c : List (Nat × Src)} (h : DOk z i j g c) : DOk z (i + 1) j g c :=
  ⟨h.ga, fun p hp => by have := h.gi p hp; exact ⟨by omega, this.2⟩, h.ca, h.ci, by have := h.gl; omega, h.cl⟩
theorem DOk.c1 {z : List Nat} {i j : Nat} {v : Src} {g : List (Nat × Nat)} {c : List (Nat × Src)} (h : DOk z i j g c) (h1 : OkSrc z j v) : DOk z i (j + 1) g (c ++ [(j, v)]) := by
  refine ⟨h.ga, h.gi, ?_, fun p hp => ?_, h.gl, ?_⟩
  · rw [List.map_append]
    exact asc_snoc h.ca fun y hy => by
      obtain ⟨p, hp, rfl⟩ := List.mem_map.mp hy
      exact (h.ci p hp).1
  · rcases List.mem_append.mp hp with hp | hp
    · have := h.ci p hp
      exact ⟨by omega, this.2⟩
    · rw [List.mem_singleton.mp hp]
      exact ⟨Nat.lt_succ_self _, h1⟩
  · rw [List.length_append]
    have := h.cl
    show c.length + 1 ≤ j + 1
    omega
theorem DOk.c0 {z : List Nat} {i j : Nat} {g : List (Nat × Nat)} {c : List (Nat × Src)} (h : DOk z i j g c) : DOk z i (j + 1) g c :=
  ⟨h.ga, h.gi, h.ca, fun p hp => by have := h.ci p hp; exact ⟨by omega, this.2⟩, h.gl, by have := h.cl; omega⟩
abbrev sMadeDeed (z : List Nat) (n : Nat) : Slot := sEx (fun e : Deed => OkDeed z e) (fun e => sNDeed (nameM n, e))
abbrev spLDeed : Sp := spP (fun x : Int × List Nat × Nat => SzOk x.2.1 ∧ x.2.2 < 100) (fun x => [sInt x.1, sInts x.2.1, sNat x.2.2]) (fun x => sMadeDeed x.2.1 x.2.2)
theorem ok__law_deed (T : Txt K mg) : Ok__law_deed P w K mg base spLDeed := by
  refine okP T.f__law_deed sc__law_deed (fun _ => rfl) fun cdv A outer s H E hr => ⟨_, (pss_cons (ps_set (i := 3) sc__law_deed.nd rfl (Or.inl rfl) (pe_callB call_len_seq (by rfl) T.n_len boot_len (pa_cons (pv 1) pa_nil))) (pss_cons (ps_set (i := 4) sc__law_deed.nd rfl (Or.inl rfl) (pe_lst pa_nil)) (pss_cons (ps_set (i := 5) sc__law_deed.nd rfl (Or.inl rfl) (pe_lst pa_nil)) (pss_cons (ps_for PassesOwn.never rfl (pi_range1 rfl T.n_range (pa_cons (pv 3) pa_nil)) (pg_name (i := 6) sc__law_deed.nd rfl (Or.inl rfl)) (pss_cons (ps_if (pt_cmpR op_lt (pe_op op_mod (pe_call (ok__law_mix T) (hr.mono (by decide)) rfl T.g__law_mix T.f__law_mix.kp T.b__law_mix .nil pass0 (pa_cons (pv 0) (pa_cons (pe_op op_mul pe_int (pv 6)) pa_nil))) pe_int) pe_int (nomark _)) (pss_one (ps_expr (pe_bm PySem.F.plainAttrs_list PySem.F.slot_list_append PySem.F.type_list_append mt_append (pv 4) (pa_cons (pe_tup (pa_cons (pv 6) (pa_cons (pe_call (ok__law_mask T) (hr.mono (by decide)) rfl T.g__law_mask T.f__law_mask.kp T.b__law_mask .nil pass0 (pa_cons (pe_call (ok__law_mix T) (hr.mono (by decide)) rfl T.g__law_mix T.f__law_mix.kp T.b__law_mix .nil pass0 (pa_cons (pv 0) (pa_cons (pe_op op_add (pe_op op_mul pe_int (pv 6)) pe_int) pa_nil))) (pa_cons (pe_ix ix_list (pv 1) (pv 6) (fun _ _ => rfl)) pa_nil))) pa_nil))) pa_nil)))) pss_nil) (pss_cons (ps_set (i := 7) sc__law_deed.nd rfl (Or.inl rfl) (pe_op op_mod (pe_call (ok__law_mix T) (hr.mono (by decide)) rfl T.g__law_mix T.f__law_mix.kp T.b__law_mix .nil pass0 (pa_cons (pv 0) (pa_cons (pe_op op_add (pe_op op_mul pe_int (pv 6)) pe_int) pa_nil))) pe_int)) (pss_cons (ps_set (i := 8) sc__law_deed.nd rfl (Or.inl rfl) (pe_op op_mod (pe_call (ok__law_mix T) (hr.mono (by decide)) rfl T.g__law_mix T.f__law_mix.kp T.b__law_mix .nil pass0 (pa_cons (pv 0) (pa_cons (pe_op op_add (pe_op op_mul pe_int (pv 6)) pe_int) pa_nil))) (pv 3))) (pss_one (ps_if (pt_cmpR op_lt (pv 7) pe_int (nomark _)) (pss_one (ps_expr (pe_bm PySem.F.plainAttrs_list PySem.F.slot_list_append PySem.F.type_list_append mt_append (pv 5) (pa_cons (pe_tup (pa_cons (pv 6) (pa_cons (pe_tup (pa_cons pe_str (pa_cons (pe_op op_mod (pe_call (ok__law_mix T) (hr.mono (by decide)) rfl T.g__law_mix T.f__law_mix.kp T.b__law_mix .nil pass0 (pa_cons (pv 0) (pa_cons (pe_op op_add (pe_op op_mul pe_int (pv 6)) pe_int) pa_nil))) (pe_ix ix_list (pv 1) (pv 6) (fun _ _ => rfl))) pa_nil))) pa_nil))) pa_nil)))) (pss_one (ps_if (PW.pt (pw_and (pt_cmpR op_eq (pv 7) pe_int (nomark _)) (pw_and1 (pt_cmpR op_le (pe_ix ix_list (pv 1) (pv 8) (fun _ _ => rfl)) (pe_ix ix_list (pv 1) (pv 6) (fun _ _ => rfl)) (nomark _))))) (pss_one (ps_expr (pe_bm PySem.F.plainAttrs_list PySem.F.slot_list_append PySem.F.type_list_append mt_append (pv 5) (pa_cons (pe_tup (pa_cons (pv 6) (pa_cons (pe_tup (pa_cons pe_str (pa_cons (pv 8) pa_nil))) pa_nil))) pa_nil)))) pss_nil)))))))) (pss_one (ps_ret (pe_tup (pa_cons (pe_op op_add_str pe_str (pe_callTy call_str_int (by rfl) T.n_str (by decide +kernel) (pa_cons (pv 2) pa_nil))) (pa_cons (pe_callTy call_tuple_of (by rfl) T.n_tuple (by decide +kernel) (pa_cons (pv 4) pa_nil)) (pa_cons (pe_callTy call_tuple_of (by rfl) T.n_tuple (by decide +kernel) (pa_cons (pv 5) pa_nil)) pa_nil)))))))))), ?_⟩
  rintro ⟨c, z, n⟩ w0 σ Q ⟨hz, hn⟩ o k
  have hz : SzOk z := hz
  have hn : n < 100 := hn
  have hpos := hz.pos
  have hfew := hz.few
  have o : EnvOk w0.G σ [some (sInt c), some (sInts z), some (sNat n), none, none, none, none, none, none] := o
  refine q_set (s := sNat z.length) o (e_lenL (R := fun n : Nat => sNat n) (e_var rfl)) fun σ1 w1 l1 o1 => ?_
  refine q_setL (R := sPr) (xs := []) (w0 := w0) l1 o1 el_nil fun lg σ2 w2 l2 og2 o2 n2 => ?_
  refine q_setL (R := sChg) (xs := []) (w0 := w0) (l1.trans l2) o2 el_nil fun lc σ3 w3 l3 oc3 o3 n3 => ?_
  have ngc : lg ≠ lc := fun e => by
    obtain ⟨_, q, _⟩ := og2.at_
    rw [e, n3] at q
    cases q
  have o3 : EnvOk w3.G σ3 [some (sInt c), some (sInts z), some (sNat n), some (sNat z.length), some (sRef lg), some (sRef lc), none, none, none] := o3
  have fg : w0.H lg = none := og2.fr
  have fc : w0.H lc = none := oc3.fr
  refine q_for o3 (i_range1 (n := z.length) (by omega) (e_var rfl)) (fun _ => b_name) (fun _ => [some (sInt c), some (sInts z), some (sNat n), some (sNat z.length), some (sRef lg), some (sRef lc), none, none, none])
    (fun i u => ∃ g ch, DOk z i i g ch ∧ Own w0 lg sPr g u ∧ Own w0 lc sChg ch u) (fun i u1 u2 ⟨g, ch, h, a, b⟩ l => ⟨g, ch, h, a.up l, b.up l⟩)
    (fun u lu ou => ⟨ou, [], [], ⟨List.Pairwise.nil, fun p h => (nomatch h), List.Pairwise.nil, fun p h => (nomatch h), Nat.le_refl _, Nat.le_refl _⟩, (og2.up l3).up lu, oc3.up lu⟩) (fun i k2 σ4 u hk o4 h N hN => ?_) (fun σ4 u o4 h => ?_)
  · obtain ⟨g, ch, hd, owg, owc⟩ := h
    have hi : i < z.length := by have := (List.getElem?_eq_some_iff.mp hk).1; rw [List.length_range] at this; exact this
    have ek : k2 = i := by
      have q := (List.getElem?_eq_some_iff.mp hk).2
      rw [List.getElem_range] at q
      exact q.symm
    subst ek
    obtain ⟨z1, z3⟩ := hz.size k2 hi
    have zat : z[k2]? = some (at0 z k2) := at0_some hi
    have o4 : EnvOk u.G σ4 [some (sInt c), some (sInts z), some (sNat n), some (sNat z.length), some (sRef lg), some (sRef lc), some (sNat k2), none, none] := o4
    have gl := hd.gl
    have cl := hd.cl
    refine q_ifJ (fun σ' u' => ∃ g', DOk z (k2 + 1) k2 g' ch ∧ Own w0 lg sPr g' u' ∧ Own w0 lc sChg ch u' ∧ Gx u u' ∧ EnvOk u'.G σ' [some (sInt c), some (sInts z), some (sNat n), some (sNat z.length), some (sRef lg), some (sRef lc), some (sNat k2), none, none]) o4
      (t_ltN (e_modN (b := 5) (by decide) (e_call (c, 4 * k2) trivial (ea_cons (e_var rfl) (ea_cons (e_timesN (a := 4) (by decide) (e_n 4 4) (e_var rfl)) ea_nil))) (e_n 5 5)) (e_n 2 2)) (fun _ u1 lu1 ou1 N' hN' => ?_) (fun _ u1 lu1 ou1 => ⟨g, hd.g0, owg.up lu1, owc.up lu1, lu1.g, ou1⟩) (fun σ5 u5 ⟨g5, hd5, owg5, owc5, gx5, o5⟩ => ?_)
    · have mk := mask_ok (z := at0 z k2) (n := mixN c (4 * k2 + 1)) z1
      refine s_app (x := (k2, 1 + mixN c (4 * k2 + 1) % (2 ^ at0 z k2 - 1))) ou1 (owg.up lu1) (by omega) (e_var rfl) (e_tup2 (e_var rfl) (e_call (mixN c (4 * k2 + 1), at0 z k2) ⟨z1, by show at0 z k2 ≤ 1000; omega⟩
        (ea_cons (e_call (c, 4 * k2 + 1) trivial (ea_cons (e_var rfl) (ea_cons (e_plus (e_timesN (a := 4) (by decide) (e_n 4 4) (e_var rfl)) (e_n 1 1)) ea_nil))) (ea_cons (e_ixL (R := fun n : Nat => sNat n) (i := k2) zat (e_var rfl) (e_var rfl)) ea_nil)))) fun u2 lu2 ow2 o2' => ?_
      refine hN' σ4 u2 ⟨_, hd.g1 mk.1 mk.2, ow2, (owc.up lu1).upB lu2 (fun b hb => by rw [List.mem_singleton.mp hb]; exact fg) (fun m => ngc (List.mem_singleton.mp m).symm), fun a o q => lu2.g a o (lu1.g a o q), o2'⟩
    refine q_set (s := sNat (mixN c (4 * k2 + 2) % 6)) o5 (e_modN (b := 6) (by decide) (e_call (c, 4 * k2 + 2) trivial (ea_cons (e_var rfl) (ea_cons (e_plus (e_timesN (a := 4) (by decide) (e_n 4 4) (e_var rfl)) (e_n 2 2)) ea_nil))) (e_n 6 6)) fun σ6 u6 l6 o6 => ?_
    refine q_set (s := sNat (mixN c (4 * k2 + 3) % z.length)) o6 (e_modN (b := z.length) (by omega) (e_call (c, 4 * k2 + 3) trivial (ea_cons (e_var rfl) (ea_cons (e_plus (e_timesN (a := 4) (by decide) (e_n 4 4) (e_var rfl)) (e_n 3 3)) ea_nil))) (e_var rfl)) fun σ7 u7 l7 o7 => ?_
    have o7 : EnvOk u7.G σ7 [some (sInt c), some (sInts z), some (sNat n), some (sNat z.length), some (sRef lg), some (sRef lc), some (sNat k2), some (sNat (mixN c (4 * k2 + 2) % 6)), some (sNat (mixN c (4 * k2 + 3) % z.length))] := o7
    have ho : mixN c (4 * k2 + 3) % z.length < z.length := Nat.mod_lt _ (by omega)
    have gx7 : Gx u u7 := fun a o q => l7.g a o (l6.g a o (gx5 a o q))
    have owg7 := owg5.up (l6.trans l7)
    have owc7 := owc5.up (l6.trans l7)
    have fin : ∀ (ch' : List (Nat × Src)) (σ' : L2.St) (u8 : Wd), DOk z (k2 + 1) (k2 + 1) g5 ch' → Own w0 lg sPr g5 u8 → Own w0 lc sChg ch' u8 → Gx u7 u8 → EnvOk u8.G σ' [some (sInt c), some (sInts z), some (sNat n), some (sNat z.length), some (sRef lg), some (sRef lc), some (sNat k2), some (sNat (mixN c (4 * k2 + 2) % 6)), some (sNat (mixN c (4 * k2 + 3) % z.length))] → N σ' u8.H :=
      fun ch' σ' u8 h1 h2 h3 h4 h5 => hN σ' u8 _ h5 (fun o => ((o.drop 6).drop 7).drop 8) ⟨g5, ch', h1, h2, h3⟩ fun a o q => h4 a o (gx7 a o q)
    refine s_if o7 (t_ltN (b := 2) (e_var rfl) (e_n 2 2)) (fun _ u8 l8 o8 => ?_) (fun _ u8 l8 o8 => ?_)
    · refine s_app (x := (k2, Src.put (mixN c (4 * k2 + 3) % at0 z k2))) o8 (owc7.up l8) (by omega) (e_var rfl) (e_tup2 (e_var rfl) (e_tup2 (s := sStr "set") (t := sNat (mixN c (4 * k2 + 3) % at0 z k2)) e_c (e_modN (b := at0 z k2) (by omega) (e_call (c, 4 * k2 + 3) trivial
        (ea_cons (e_var rfl) (ea_cons (e_plus (e_timesN (a := 4) (by decide) (e_n 4 4) (e_var rfl)) (e_n 3 3)) ea_nil))) (e_ixL (R := fun n : Nat => sNat n) (i := k2) zat (e_var rfl) (e_var rfl))))) fun u9 l9 ow9 o9 => ?_
      exact fin _ σ7 u9 (hd5.c1 (Nat.mod_lt _ (by omega))) ((owg7.up l8).upB l9 (fun b hb => by rw [List.mem_singleton.mp hb]; exact fc) (fun m => ngc (List.mem_singleton.mp m))) ow9 (fun a o q => l9.g a o (l8.g a o q)) o9
    · refine s_if o8 (t_and (t_eqN (b := 2) (e_var rfl) (e_n 2 2)) fun _ => t_leN (e_ixL (R := fun n : Nat => sNat n) (i := mixN c (4 * k2 + 3) % z.length) (at0_some ho) (e_var rfl) (e_var rfl)) (e_ixL (R := fun n : Nat => sNat n) (i := k2) zat (e_var rfl) (e_var rfl))) (fun q u9 l9 o9 => ?_) (fun q u9 l9 o9 => ?_)
      · rw [Bool.and_eq_true] at q
        have q2 := of_decide_eq_true q.2
        refine s_app (x := (k2, Src.copy (mixN c (4 * k2 + 3) % z.length))) o9 (owc7.up (l8.trans l9)) (by omega) (e_var rfl) (e_tup2 (e_var rfl) (e_tup2 (s := sStr "copy") (t := sNat (mixN c (4 * k2 + 3) % z.length)) e_c (e_var rfl))) fun u10 l10 ow10 o10 => ?_
        exact fin _ σ7 u10 (hd5.c1 (v := Src.copy (mixN c (4 * k2 + 3) % z.length)) ⟨ho, q2⟩) ((owg7.up (l8.trans l9)).upB l10 (fun b hb => by rw [List.mem_singleton.mp hb]; exact fc) (fun m => ngc (List.mem_singleton.mp m))) ow10 (fun a o q => l10.g a o (l9.g a o (l8.g a o q))) o10
      · exact fin ch σ7 u9 hd5.c0 (owg7.up (l8.trans l9)) (owc7.up (l8.trans l9)) (fun a o q => l9.g a o (l8.g a o q)) o9
  obtain ⟨g, ch, hd, owg, owc⟩ := h
  rw [List.length_range] at hd
  have hmlen : ("m" : Str).length + (toString (n : Int) : Str).length ≤ sizeLine := Nat.le_trans (short ⟨n, hn⟩) (by decide)
  refine s_ret o4 (e_tup3 (s := sStr (nameM n)) (t := sTup sPr g) (u := sTup sChg ch) (e_addS hmlen e_c (e_strI hn (e_var rfl))) (e_tupOw owg (e_var rfl)) (e_tupOw owc (e_var rfl))) fun v w5 l5 p => k v w5 (owg.le.trans l5) ⟨⟨g, ch⟩, ⟨hd.ga, hd.gi, hd.ca, hd.ci⟩, p⟩
end
end R40

set_option Elab.async false
set_option linter.all false
set_option maxRecDepth 100000
set_option maxHeartbeats 1000000
/-! Walks: the law's parts, sketches, pieces. -/
namespace R40
open PySem PySem.Spec PyProof.Rows L2 M40
theorem int_n {i : Int} (h : 0 ≤ i) : sInt i = sNat i.toNat := by
  show sInt i = sInt ((i.toNat : Nat) : Int)
  rw [Int.toNat_of_nonneg h]
def nameB (x : Str) : Bool := decide (0 < x.length) && (decide (x.length ≤ 12) && ((match x.cps.toList with
  | [] => false
  | c :: _ => decide (c ∈ lowerS.cps.toList)) && x.cps.toList.all fun c => decide (c ∈ lowerS.cps.toList) || decide (c ∈ digitS.cps.toList)))
theorem name_ok {x : Str} (h : nameB x = true) : NameOk x := by
  unfold nameB at h
  rw [Bool.and_eq_true, Bool.and_eq_true, Bool.and_eq_true] at h
  obtain ⟨h1, h2, h3, h4⟩ := h
  refine ⟨of_decide_eq_true h1, of_decide_eq_true h2, ?_, fun c hc => ?_⟩
  · split at h3
    · cases h3
    · rename_i c r e
      exact ⟨c, by rw [e]; rfl, of_decide_eq_true h3⟩
  · rw [List.all_eq_true] at h4
    have q := h4 c hc
    rw [Bool.or_eq_true, decide_eq_true_eq, decide_eq_true_eq] at q
    exact q
def nameC (k : Nat) : Str := ⟨#[97 + k]⟩
theorem nameC_ok : ∀ k : Fin 4, nameB (nameC k.val) = true := by decide +kernel
theorem nameM_ok : ∀ k : Fin 7, nameB (nameM k.val) = true := by decide +kernel
theorem nameC_nd : ((List.range 4).map nameC).Nodup := by decide +kernel
theorem nameM_nd : ((List.range 7).map nameM).Nodup := by decide +kernel
theorem abcd : ∀ k : Fin 4, ("abcd" : Str).cps.toList[k.val]? = some (97 + k.val) := by decide +kernel
theorem first_nd {f : Nat → Str} {n m : Nat} (h : ((List.range m).map f).Nodup) (hn : n ≤ m) : ((List.range n).map f).Nodup := by
  have e : (List.range n).map f = ((List.range m).map f).take n := by rw [← List.map_take, List.take_range, Nat.min_eq_left hn]
  rw [e]
  exact h.sublist (List.take_sublist _ _)
section
variable {P : Program} {w : World} {K : PySem.W.Frag} {mg : Str → Option Value} {base : Heap}
def cntN (ns : List Int) (f : Nat) : Nat := (1 + cellI ns f % 4).toNat
def szs_ (ns : List Int) (f : Nat) : List Nat := (List.range (cntN ns f)).map fun k => 1 + mixN (cellI ns f) k % 3
theorem szs_len (ns : List Int) (f : Nat) : (szs_ ns f).length = cntN ns f := by unfold szs_; rw [List.length_map, List.length_range]
theorem cnt_ok (ns : List Int) (f : Nat) : 1 ≤ cntN ns f ∧ cntN ns f ≤ 4 := by
  have h1 := Int.emod_nonneg (cellI ns f) (show (4 : Int) ≠ 0 by decide)
  have h2 := Int.emod_lt_of_pos (cellI ns f) (show (0 : Int) < 4 by decide)
  unfold cntN
  omega
theorem range_at {n i : Nat} {x : Nat} (h : (List.range n)[i]? = some x) : x = i ∧ i < n := by
  have h1 := (List.getElem?_eq_some_iff.mp h).1
  have h2 := (List.getElem?_eq_some_iff.mp h).2
  rw [List.getElem_range] at h2
  rw [List.length_range] at h1
  exact ⟨h2.symm, h1⟩
theorem at_range {n i : Nat} (h : i < n) : (List.range n)[i]? = some i := by
  rw [List.getElem?_range h]
theorem szs_at {ns : List Int} {f i : Nat} (h : i < cntN ns f) : at0 (szs_ ns f) i = 1 + mixN (cellI ns f) i % 3 := by
  refine at0_of ?_
  unfold szs_
  rw [List.getElem?_map, at_range h]
  rfl
theorem szs_ok (ns : List Int) (f : Nat) : SzOk (szs_ ns f) := by
  have h := cnt_ok ns f
  have hl := szs_len ns f
  refine ⟨by omega, by omega, fun i hi => ?_⟩
  rw [szs_at (by omega)]
  have := Nat.mod_lt (mixN (cellI ns f) i) (show 3 > 0 by decide)
  omega
theorem all_len {α β : Type} {R : α → Slot} {S : β → Slot} {G : Hp} {vs : List V} {xs : List α} {ys : List β} (h : AllR R G vs xs) (hl : ys.length = xs.length) (k : ∀ (i : Nat) (v : V) (x : α) (y : β), vs[i]? = some v → xs[i]? = some x → ys[i]? = some y → (S y).P G v) : AllR S G vs ys :=
  ⟨by rw [h.len, hl], fun i v y a b => by
    have hi : i < xs.length := by rw [← hl]; exact (List.getElem?_eq_some_iff.mp b).1
    exact k i v xs[i] y a (List.getElem?_eq_getElem hi) b⟩
abbrev sMaskIn (z : List Nat) (k : Nat) : Slot := sEx (fun v : Nat => 0 < v ∧ v < 2 ^ at0 z k) (fun n : Nat => sNat n)
/-- masks told by existence: a sketch -/
theorem sk_of {z : List Nat} {G : Hp} {v : V} (h : (sTup (sMaskIn z) (List.range z.length)).P G v) : (sEx (fun s : List Nat => OkSk z s) sNs).P G v := by
  obtain ⟨a, vs, rfl, ha, r⟩ := h
  obtain ⟨ys, e1, e2, e3⟩ := allEx (p := fun k (v : Nat) => 0 < v ∧ v < 2 ^ at0 z k) (S := fun _ (n : Nat) => sNat n) r
  rw [List.length_range] at e1
  refine ⟨ys, ⟨e1, fun i hi => ?_⟩, a, vs, rfl, ha, all_len r (by rw [e1, List.length_range]) fun i v x y q0 q1 q2 => e3 i v x y q0 q1 q2⟩
  exact e2 i i (at0 ys i) (at_range hi) (at0_some (by rw [e1]; exact hi))
theorem mach_made {z first : List Nat} {es : List Deed} {cn nd : Nat} (hz : SzOk z) (hzl : z.length = cn) (hc : cn ≤ 4) (hn : nd ≤ 7) (e1 : es.length = nd) (hd : ∀ e ∈ es, OkDeed z e) (hf : OkSk z first) :
    MachOk ⟨(List.range cn).map fun k => (nameC k, at0 z k), ((List.range nd).zip es).map fun p => (nameM p.1, p.2), ⟨z, es, first⟩⟩ := by
  have m1 : (((List.range nd).zip es).map fun p => (nameM p.1, p.2)).map (·.2) = es := by
    rw [List.map_map, show ((fun p : Str × Deed => p.2) ∘ fun p : Nat × Deed => (nameM p.1, p.2)) = Prod.snd from rfl, List.map_snd_zip]
    rw [List.length_range, e1]
    exact Nat.le_refl _
  have m2 : (((List.range nd).zip es).map fun p => (nameM p.1, p.2)).map (·.1) = (List.range nd).map nameM := by
    rw [List.map_map, show ((fun p : Str × Deed => p.1) ∘ fun p : Nat × Deed => (nameM p.1, p.2)) = nameM ∘ Prod.fst from rfl, ← List.map_map, List.map_fst_zip]
    rw [List.length_range, e1]
    exact Nat.le_refl _
  have m3 : ((List.range cn).map fun k => (nameC k, at0 z k)).map (·.1) = (List.range cn).map nameC := by
    rw [List.map_map]
    exact List.map_congr_left fun a _ => rfl
  have m4 : ((List.range cn).map fun k => (nameC k, at0 z k)).map (·.2) = z := by
    rw [List.map_map]
    refine List.ext_getElem? fun i => ?_
    by_cases hi : i < cn
    · rw [at0_some (l := z) (by rw [hzl]; exact hi), List.getElem?_map, at_range hi]
      rfl
    · rw [List.getElem?_eq_none (l := z) (by omega), List.getElem?_eq_none (by rw [List.length_map, List.length_range]; omega)]
  have h1 : ∀ x ∈ (List.range cn).map nameC, NameOk x := fun x hx => by
    obtain ⟨i, hi, rfl⟩ := List.mem_map.mp hx
    exact name_ok (nameC_ok ⟨i, by have := List.mem_range.mp hi; omega⟩)
  have h2 : ∀ x ∈ (List.range nd).map nameM, NameOk x := fun x hx => by
    obtain ⟨i, hi, rfl⟩ := List.mem_map.mp hx
    exact name_ok (nameM_ok ⟨i, by have := List.mem_range.mp hi; omega⟩)
  have h3 := first_nd nameC_nd hc
  have h4 := first_nd nameM_nd hn
  exact ⟨⟨hz.pos, hz.few, hz.size, by show es.length ≤ 7; omega, hd, hf⟩, m4.symm, m1.symm, ⟨by rw [m3]; exact h1, by rw [m3]; exact h3⟩, ⟨by rw [m2]; exact h2, by rw [m2]; exact h4⟩⟩
abbrev spLParts (K : PySem.W.Frag) : Sp := spP (fun _ : List Int × Nat => True) (fun x => [sScr K x.1, sNat x.2, sNat 7]) (fun _ => sEx (fun x : MachIn => MachOk x) (fun x => sT3 (sLst sNamed x.cells) (sLst sNDeed x.named) (sNs x.m.first)))
theorem ok__law_parts (T : Txt K mg) : Ok__law_parts P w K mg base (spLParts K) := by
  refine okP T.f__law_parts sc__law_parts (fun _ => rfl) fun cdv A outer s H E hr => ⟨_, (pss_cons (ps_set (i := 3) sc__law_parts.nd rfl (Or.inl rfl) (pe_op op_add pe_int (pe_op op_mod (pe_call (ok__law_cell T) (hr.mono (by decide)) rfl T.g__law_cell T.f__law_cell.kp T.b__law_cell .nil pass0 (pa_cons (pv 0) (pa_cons (pv 1) pa_nil))) pe_int))) (pss_cons (ps_set (i := 4) sc__law_parts.nd rfl (Or.inr rfl) (pe_lc (own := [("_law_k", 7)]) (g := (gName 7)) (tt := tYes) (te := (tOp rPlus (tC (.int 1)) (tOp rMod (tCall _ [] E0 (tCons (tCall _ [] E0 (tCons (tVar 0) (tCons (tVar 1) tNil))) (tCons (tVar 7) tNil))) (tC (.int 3))))) rfl sc__law_parts.nd (pi_range1 rfl T.n_range (pa_cons (pv 3) pa_nil)) (blkOk_by (own := [("_law_k", 7)]) (N := N__law_parts) (sc := defScope st__law_parts) (by decide +kernel)) (fun _ _ _ _ _ => (pg_name (i := 7) sc__law_parts.nd rfl (Or.inl rfl))) (fun _ _ _ _ _ => pts_nil) (fun _ _ _ _ _ => (pe_op op_add pe_int (pe_op op_mod (pe_call (ok__law_mix T) (hr.mono (by decide)) rfl T.g__law_mix T.f__law_mix.kp T.b__law_mix .nil pass0 (pa_cons (pe_call (ok__law_cell T) (hr.mono (by decide)) rfl T.g__law_cell T.f__law_cell.kp T.b__law_cell .nil pass0 (pa_cons (pv 0) (pa_cons (pv 1) pa_nil))) (pa_cons (pv 7) pa_nil))) pe_int))))) (pss_cons (ps_setLc (i := 5) (own := [("_law_k", 7)]) (g := (gName 7)) (tt := tYes) (te := (tTup (tCons (tOp rIxS (tC (.str "abcd")) (tVar 7)) (tCons (tOp (rIxL K) (tVar 4) (tVar 7)) tNil)))) rfl sc__law_parts.nd rfl rfl (sw_true rfl rfl rfl (by decide +kernel)) (pi_range1 rfl T.n_range (pa_cons (pv 3) pa_nil)) (blkOk_by (own := [("_law_k", 7)]) (N := N__law_parts) (sc := defScope st__law_parts) (by decide +kernel)) (fun _ _ _ _ _ => (pg_name (i := 7) sc__law_parts.nd rfl (Or.inl rfl))) (fun _ _ _ _ _ => pts_nil) (fun _ _ _ _ _ => (pe_tup (pa_cons (pe_ix ix_str pe_str (pv 7) (fun _ _ => rfl)) (pa_cons (pe_ix ix_list (pv 4) (pv 7) (fun _ _ => rfl)) pa_nil))))) (pss_cons (ps_set (i := 6) sc__law_parts.nd rfl (Or.inl rfl) (pe_lst pa_nil)) (pss_cons (ps_for PassesOwn.never rfl (pi_range1 rfl T.n_range (pa_cons (pe_op op_mod (pe_call (ok__law_cell T) (hr.mono (by decide)) rfl T.g__law_cell T.f__law_cell.kp T.b__law_cell .nil pass0 (pa_cons (pv 0) (pa_cons (pe_op op_add (pv 1) pe_int) pa_nil))) (pe_op op_add (pv 2) pe_int)) pa_nil)) (pg_name (i := 7) sc__law_parts.nd rfl (Or.inl rfl)) (pss_one (ps_expr (pe_bm PySem.F.plainAttrs_list PySem.F.slot_list_append PySem.F.type_list_append mt_append (pv 6) (pa_cons (pe_call (ok__law_deed T) (hr.mono (by decide)) rfl T.g__law_deed T.f__law_deed.kp T.b__law_deed .nil pass0 (pa_cons (pe_call (ok__law_cell T) (hr.mono (by decide)) rfl T.g__law_cell T.f__law_cell.kp T.b__law_cell .nil pass0 (pa_cons (pv 0) (pa_cons (pe_op op_add (pe_op op_add (pv 1) pe_int) (pv 7)) pa_nil))) (pa_cons (pv 4) (pa_cons (pv 7) pa_nil)))) pa_nil))))) (pss_cons (ps_set (i := 8) sc__law_parts.nd rfl (Or.inl rfl) (pe_lst pa_nil)) (pss_cons (ps_for PassesOwn.never rfl (pi_range1 rfl T.n_range (pa_cons (pv 3) pa_nil)) (pg_name (i := 7) sc__law_parts.nd rfl (Or.inl rfl)) (pss_cons (ps_set (i := 9) sc__law_parts.nd rfl (Or.inl rfl) (pe_call (ok__law_mask T) (hr.mono (by decide)) rfl T.g__law_mask T.f__law_mask.kp T.b__law_mask .nil pass0 (pa_cons (pe_call (ok__law_mix T) (hr.mono (by decide)) rfl T.g__law_mix T.f__law_mix.kp T.b__law_mix .nil pass0 (pa_cons (pe_call (ok__law_cell T) (hr.mono (by decide)) rfl T.g__law_cell T.f__law_cell.kp T.b__law_cell .nil pass0 (pa_cons (pv 0) (pa_cons (pe_op op_add (pv 1) pe_int) pa_nil))) (pa_cons (pv 7) pa_nil))) (pa_cons (pe_ix ix_list (pv 4) (pv 7) (fun _ _ => rfl)) pa_nil)))) (pss_cons (ps_if (pt_cmpR op_eq (pe_op op_mod (pe_op op_fdiv (pe_call (ok__law_cell T) (hr.mono (by decide)) rfl T.g__law_cell T.f__law_cell.kp T.b__law_cell .nil pass0 (pa_cons (pv 0) (pa_cons (pe_op op_add (pv 1) pe_int) pa_nil))) pe_int) pe_int) pe_int (nomark _)) (pss_one (ps_set (i := 9) sc__law_parts.nd rfl (Or.inl rfl) (pe_op op_shl pe_int (pe_op op_mod (pe_call (ok__law_mix T) (hr.mono (by decide)) rfl T.g__law_mix T.f__law_mix.kp T.b__law_mix .nil pass0 (pa_cons (pe_call (ok__law_cell T) (hr.mono (by decide)) rfl T.g__law_cell T.f__law_cell.kp T.b__law_cell .nil pass0 (pa_cons (pv 0) (pa_cons (pe_op op_add (pv 1) pe_int) pa_nil))) (pa_cons (pv 7) pa_nil))) (pe_ix ix_list (pv 4) (pv 7) (fun _ _ => rfl)))))) pss_nil) (pss_one (ps_expr (pe_bm PySem.F.plainAttrs_list PySem.F.slot_list_append PySem.F.type_list_append mt_append (pv 8) (pa_cons (pv 9) pa_nil))))))) (pss_one (ps_ret (pe_tup (pa_cons (pv 5) (pa_cons (pv 6) (pa_cons (pe_callTy call_tuple_of (by rfl) T.n_tuple (by decide +kernel) (pa_cons (pv 8) pa_nil)) pa_nil))))))))))))), ?_⟩
  rintro ⟨ns, f⟩ w0 σ Q _ o k
  have hc := cnt_ok ns f
  have hz := szs_ok ns f
  have hzl := szs_len ns f
  have o : EnvOk w0.G σ [some (sScr K ns), some (sNat f), some (sNat 7), none, none, none, none, none, none, none] := o
  refine q_set (s := sNat (cntN ns f)) o (e_is (e_plusI (i := 1) e_c (e_modI (j := 4) (by decide) (e_call (ns, f) trivial (ea_cons (e_var rfl) (ea_cons (e_var rfl) ea_nil))) e_c)) (int_n (by
    have := Int.emod_nonneg (cellI ns f) (show (4 : Int) ≠ 0 by decide)
    show 0 ≤ 1 + cellI ns f % 4
    omega))) fun σ1 w1 l1 o1 => ?_
  refine q_set (s := sInts (szs_ ns f)) o1 (el_lcM (Z := fun n : Nat => sNat n) (fun k => 1 + mixN (cellI ns f) k % 3) (i_range1 (n := cntN ns f) (by omega) (e_var rfl)) (by rw [List.length_range]; omega) (fun _ => b_name) (by decide)
    (fun k _ => e_plus (e_n 1 1) (e_modN (b := 3) (by decide) (e_call (cellI ns f, k) trivial (ea_cons (e_call (ns, f) trivial (ea_cons (e_var rfl) (ea_cons (e_var rfl) ea_nil))) (ea_cons (e_var rfl) ea_nil))) (e_n 3 3)))).e fun σ2 w2 l2 o2 => ?_
  generalize szs_ ns f = z at *
  generalize cntN ns f = cn at *
  refine q_set (s := sLst sNamed ((List.range cn).map fun k => (nameC k, at0 z k))) o2 (el_lcM (Z := sNamed) (fun k => (nameC k, at0 z k)) (i_range1 (n := cn) (by omega) (e_var rfl)) (by rw [List.length_range]; omega) (fun _ => b_name) (by decide)
    (fun k hk => e_tup2 (s := sStr (nameC k)) (t := sNat (at0 z k)) (e_ixS (z := "abcd") (i := k) (abcd ⟨k, by have := List.mem_range.mp hk; omega⟩) (by decide +kernel) e_c (e_var rfl)) (e_ixL (R := fun n : Nat => sNat n) (i := k) (at0_some (by rw [hzl]; exact List.mem_range.mp hk)) (e_var rfl) (e_var rfl)))).e fun σ3 w3 l3 o3 => ?_
  have l03 : Le w0 w3 := l1.trans (l2.trans l3)
  refine q_setL (R := sMadeDeed z) (xs := []) (w0 := w0) l03 o3 el_nil fun ld σ4 w4 l4 od4 o4 n4 => ?_
  have hnd0 := Int.emod_nonneg (cellI ns (f + 1)) (show (8 : Int) ≠ 0 by decide)
  have hnd1 := Int.emod_lt_of_pos (cellI ns (f + 1)) (show (0 : Int) < 8 by decide)
  have o4 : EnvOk w4.G σ4 [some (sScr K ns), some (sNat f), some (sNat 7), some (sNat cn), some (sInts z), some (sLst sNamed ((List.range cn).map fun k => (nameC k, at0 z k))), some (sRef ld), none, none, none] := o4
  generalize hnd : (cellI ns (f + 1) % 8).toNat = nd at *
  refine q_for o4 (i_range1 (n := nd) (by omega) (e_is (e_modI (j := ((7 + 1 : Nat) : Int)) (by decide) (e_call (ns, f + 1) trivial (ea_cons (e_var rfl) (ea_cons (e_plus (e_var rfl) (e_n 1 1)) ea_nil))) (e_plus (a := 7) (b := 1) (e_var rfl) (e_n 1 1))) (by rw [← hnd]; exact int_n hnd0))) (fun _ => b_name)
    (fun _ => [some (sScr K ns), some (sNat f), some (sNat 7), some (sNat cn), some (sInts z), some (sLst sNamed ((List.range cn).map fun k => (nameC k, at0 z k))), some (sRef ld), none, none, none])
    (fun i u => Own w0 ld (sMadeDeed z) (List.range i) u) (fun i u1 u2 h l => h.up l) (fun u lu ou => ⟨ou, od4.up lu⟩) (fun i k2 σ5 u hk o5 h N hN => ?_) (fun σ5 u o5 h => ?_)
  · obtain ⟨ek, hi⟩ := range_at hk
    subst ek
    refine s_app (x := k2) o5 h (by rw [List.length_range]; omega) (e_var rfl) (e_call (cellI ns (f + 2 + k2), z, k2) ⟨hz, by show k2 < 100; omega⟩ (ea_cons (e_call (ns, f + 2 + k2) trivial (ea_cons (e_var rfl) (ea_cons (e_plus (e_plus (e_var rfl) (e_n 2 2)) (e_var rfl)) ea_nil))) (ea_cons (e_var rfl) (ea_cons (e_var rfl) ea_nil)))) fun u2 lu2 ow2 o2' => ?_
    refine hN σ5 u2 _ o2' (fun o => o.drop 7) ?_ lu2.g
    rw [List.range_succ]
    exact ow2
  rw [List.length_range] at h
  refine q_setL (R := sMaskIn z) (xs := []) (w0 := w0) h.le o5 el_nil fun li σ6 w6 l6 oi6 o6 n6 => ?_
  have ndi : ld ≠ li := fun e => by
    obtain ⟨_, q, _⟩ := h.at_
    rw [e, n6] at q
    cases q
  have fi : w0.H li = none := oi6.fr
  have o6 : EnvOk w6.G σ6 [some (sScr K ns), some (sNat f), some (sNat 7), some (sNat cn), some (sInts z), some (sLst sNamed ((List.range cn).map fun k => (nameC k, at0 z k))), some (sRef ld), none, some (sRef li), none] := o6
  refine q_for o6 (i_range1 (n := cn) (by omega) (e_var rfl)) (fun _ => b_name)
    (fun _ => [some (sScr K ns), some (sNat f), some (sNat 7), some (sNat cn), some (sInts z), some (sLst sNamed ((List.range cn).map fun k => (nameC k, at0 z k))), some (sRef ld), none, some (sRef li), none])
    (fun i u => Own w0 ld (sMadeDeed z) (List.range nd) u ∧ Own w0 li (sMaskIn z) (List.range i) u) (fun i u1 u2 h l => ⟨h.1.up l, h.2.up l⟩) (fun u lu ou => ⟨ou, (h.up l6).up lu, oi6.up lu⟩) (fun i k2 σ7 u hk o7 h7 N hN => ?_) (fun σ7 u o7 h7 => ?_)
  · obtain ⟨owd, owi⟩ := h7
    obtain ⟨ek, hi⟩ := range_at hk
    subst ek
    have hi2 : k2 < z.length := by rw [hzl]; exact hi
    obtain ⟨z1, z3⟩ := hz.size k2 hi2
    have zat : z[k2]? = some (at0 z k2) := at0_some hi2
    have mk := mask_ok (z := at0 z k2) (n := mixN (cellI ns (f + 1)) k2) z1
    have ecell : ∀ {Γ : Env} {w : Wd}, Γ[0]? = some (some (sScr K ns)) → Γ[1]? = some (some (sNat f)) → R40.E (tCall (spLCell K) [] E0 (tCons (tVar 0) (tCons (tOp rPlus (tVar 1) (tC (.int 1))) tNil))) Γ w (sInt (cellI ns (f + 1))) := fun h0 h1 =>
      e_call (ns, f + 1) trivial (ea_cons (e_var h0) (ea_cons (e_plus (e_var h1) (e_n 1 1)) ea_nil))
    refine q_set (s := sNat (1 + mixN (cellI ns (f + 1)) k2 % (2 ^ at0 z k2 - 1))) o7 (e_call (mixN (cellI ns (f + 1)) k2, at0 z k2) ⟨z1, by show at0 z k2 ≤ 1000; omega⟩ (ea_cons (e_call (cellI ns (f + 1), k2) trivial (ea_cons (ecell rfl rfl) (ea_cons (e_var rfl) ea_nil)))
      (ea_cons (e_ixL (R := fun n : Nat => sNat n) (i := k2) zat (e_var rfl) (e_var rfl)) ea_nil))) fun σ8 u8 l8 o8 => ?_
    have o8 : EnvOk u8.G σ8 [some (sScr K ns), some (sNat f), some (sNat 7), some (sNat cn), some (sInts z), some (sLst sNamed ((List.range cn).map fun k => (nameC k, at0 z k))), some (sRef ld), some (sNat k2), some (sRef li), some (sNat (1 + mixN (cellI ns (f + 1)) k2 % (2 ^ at0 z k2 - 1)))] := o8
    refine q_ifJ (fun σ' u' => Le u8 u' ∧ EnvOk u'.G σ' [some (sScr K ns), some (sNat f), some (sNat 7), some (sNat cn), some (sInts z), some (sLst sNamed ((List.range cn).map fun k => (nameC k, at0 z k))), some (sRef ld), some (sNat k2), some (sRef li), some (sMaskIn z k2)]) o8
      (t_test (e_eq (x := .int (cellI ns (f + 1) / 64 % 2)) (y := .int 1) rfl (e_modI (j := 2) (by decide) (e_fdivI (j := 64) ⟨by decide, by decide⟩ (ecell rfl rfl) e_c) e_c) e_c)) (fun _ u1 lu1 ou1 N' hN' => ?_) (fun _ u1 lu1 ou1 => ?_) (fun σ9 u9 ⟨l9, o9⟩ => ?_)
    · have hm := Nat.mod_lt (mixN (cellI ns (f + 1)) k2) (show at0 z k2 > 0 by omega)
      refine s_set (s := sNat (1 <<< (mixN (cellI ns (f + 1)) k2 % at0 z k2))) ou1 (e_shl (a := 1) (by decide) (by omega) (e_n 1 1) (e_modN (by omega) (e_call (cellI ns (f + 1), k2) trivial (ea_cons (ecell rfl rfl) (ea_cons (e_var rfl) ea_nil))) (e_ixL (R := fun n : Nat => sNat n) (i := k2) zat (e_var rfl) (e_var rfl)))) fun σ9 u9 l9 o9 => ?_
      refine hN' σ9 u9 ⟨lu1.trans l9, o9.imp (i := 9) rfl fun v p => ⟨_, ⟨?_, ?_⟩, p⟩⟩
      · rw [Nat.shiftLeft_eq, Nat.one_mul]
        exact Nat.two_pow_pos _
      · rw [Nat.shiftLeft_eq, Nat.one_mul]
        exact Nat.pow_lt_pow_right (by decide) hm
    · exact ⟨lu1, ou1.imp (i := 9) rfl fun v p => ⟨_, mk, p⟩⟩
    refine s_app (x := k2) o9 (owi.up (l8.trans l9)) (by rw [List.length_range]; omega) (e_var rfl) (e_var (s := sMaskIn z k2) rfl) fun u10 l10 ow10 o10 => ?_
    refine hN σ9 u10 _ o10 (fun o => (o.drop 7).drop 9) ⟨(owd.up (l8.trans l9)).upB l10 (fun b hb => by rw [List.mem_singleton.mp hb]; exact fi) (fun m => ndi (List.mem_singleton.mp m)), ?_⟩ fun a o q => l10.g a o (l9.g a o (l8.g a o q))
    rw [List.range_succ]
    exact ow10
  obtain ⟨owd, owi⟩ := h7
  rw [List.length_range] at owi
  obtain ⟨vsi, ai, ri⟩ := owi.at_
  obtain ⟨vsd, ad, rd⟩ := owd.at_
  have gx : ∀ b u', u.G b = some u' → upd u.G ld (.lst vsd) b = some u' := fun b u' e => keepU (neN e owd.g) e
  have o8 : EnvOk (u.frz ld (.lst vsd) ad).G σ7 [some (sScr K ns), some (sNat f), some (sNat 7), some (sNat cn), some (sInts z), some (sLst sNamed ((List.range cn).map fun k => (nameC k, at0 z k))), some (sLst (sMadeDeed z) (List.range nd)), none, some (sRef li), none] :=
    (o7.mono gx).imp (i := 6) (s := sRef ld) rfl fun v e => ⟨ld, vsd, e, upd_same, rd.mono gx⟩
  have L8 : Le w0 (u.frz ld (.lst vsd) ad) := owd.le.frz owd.g owd.fr
  refine s_ret (w := u.frz ld (.lst vsd) ad) o8 (e_tup3 (s := sLst sNamed ((List.range cn).map fun k => (nameC k, at0 z k))) (t := sLst (sMadeDeed z) (List.range nd)) (u := sTup (sMaskIn z) (List.range cn)) (e_var rfl) (e_var rfl) (e_tupO ai (ri.mono gx) (e_var rfl))) fun v w9 l9 p => k v w9 (L8.trans l9) ?_
  obtain ⟨a, x, y, zz, rfl, ha, px, py, pz⟩ := p
  rw [← hzl] at pz
  obtain ⟨first, hfirst, pz⟩ := sk_of pz
  obtain ⟨b, vs, rfl, hb, r⟩ := py
  obtain ⟨es, e1, e2, e3⟩ := allEx (p := fun (_ : Nat) (e : Deed) => OkDeed z e) (S := fun k e => sNDeed (nameM k, e)) r
  rw [List.length_range] at e1
  have hzip : ∀ i e, es[i]? = some e → i < nd := fun i e h => by rw [← e1]; exact (List.getElem?_eq_some_iff.mp h).1
  have hall : ∀ e ∈ es, OkDeed z e := fun e he => by
    obtain ⟨i, hi⟩ := List.mem_iff_getElem?.mp he
    exact e2 i i e (at_range (hzip i e hi)) hi
  have mk := mach_made hz hzl hc.2 (by omega) e1 hall hfirst
  have rr : AllR sNDeed w9.G vs (((List.range nd).zip es).map fun p => (nameM p.1, p.2)) := by
    refine all_len r (by rw [List.length_map, List.length_zip, List.length_range, e1, Nat.min_self]) fun i v x y q0 q1 q2 => ?_
    obtain ⟨ex, hi⟩ := range_at q1
    have hei : es[i]? = some es[i] := List.getElem?_eq_getElem (by omega)
    have q3 : ((List.range nd).zip es)[i]? = some (i, es[i]) := List.getElem?_zip_eq_some.mpr ⟨at_range hi, hei⟩
    rw [List.getElem?_map, q3] at q2
    have q4 : (nameM i, es[i]) = y := Option.some.inj q2
    rw [← q4]
    have q5 := e3 i v x es[i] q0 q1 hei
    rw [ex] at q5
    exact q5
  have pn : (sLst sNDeed (((List.range nd).zip es).map fun p => (nameM p.1, p.2))).P w9.G (.ref b) := ⟨b, vs, rfl, hb, rr⟩
  have fin : (sT3 (sLst sNamed ((List.range cn).map fun k => (nameC k, at0 z k))) (sLst sNDeed (((List.range nd).zip es).map fun p => (nameM p.1, p.2))) (sNs first)).P w9.G (.ref a) := ⟨a, x, .ref b, zz, rfl, ha, px, pn, pz⟩
  exact ⟨_, mk, fin⟩
end
end R40

set_option Elab.async false
set_option linter.all false
set_option maxRecDepth 100000
set_option maxHeartbeats 1000000
/-! Walks: the law's sketches and pieces; in, has, can, after, meet. -/
namespace R40
open PySem PySem.Spec PyProof.Rows L2 M40
section
variable {P : Program} {w : World} {K : PySem.W.Frag} {mg : Str → Option Value} {base : Heap}
abbrev spLSketch : Sp := spP (fun x : Int × List Nat => SzOk x.2) (fun x => [sInt x.1, sInts x.2]) (fun x => sEx (fun s : List Nat => OkSk x.2 s) sNs)
theorem ok__law_sketch (T : Txt K mg) : Ok__law_sketch P w K mg base spLSketch := by
  refine okP T.f__law_sketch sc__law_sketch (fun _ => rfl) fun cdv A outer s H E hr => ⟨_, (pss_cons (ps_set (i := 2) sc__law_sketch.nd rfl (Or.inl rfl) (pe_lst pa_nil)) (pss_cons (ps_for PassesOwn.never rfl (pi_range1 rfl T.n_range (pa_cons (pe_callB call_len_seq (by rfl) T.n_len boot_len (pa_cons (pv 1) pa_nil)) pa_nil)) (pg_name (i := 3) sc__law_sketch.nd rfl (Or.inl rfl)) (pss_cons (ps_set (i := 4) sc__law_sketch.nd rfl (Or.inl rfl) (pe_call (ok__law_mix T) (hr.mono (by decide)) rfl T.g__law_mix T.f__law_mix.kp T.b__law_mix .nil pass0 (pa_cons (pv 0) (pa_cons (pe_op op_mul pe_int (pv 3)) pa_nil)))) (pss_cons (ps_set (i := 5) sc__law_sketch.nd rfl (Or.inl rfl) (pe_call (ok__law_mask T) (hr.mono (by decide)) rfl T.g__law_mask T.f__law_mask.kp T.b__law_mask .nil pass0 (pa_cons (pv 4) (pa_cons (pe_ix ix_list (pv 1) (pv 3) (fun _ _ => rfl)) pa_nil)))) (pss_cons (ps_if (pt_cmpR op_eq (pe_op op_mod (pe_op op_fdiv (pv 4) pe_int) pe_int) pe_int (nomark _)) (pss_one (ps_set (i := 5) sc__law_sketch.nd rfl (Or.inl rfl) (pe_op op_sub (pe_op op_shl pe_int (pe_ix ix_list (pv 1) (pv 3) (fun _ _ => rfl))) pe_int))) pss_nil) (pss_cons (ps_if (pt_cmpR op_eq (pe_op op_mod (pv 0) pe_int) pe_int (nomark _)) (pss_one (ps_set (i := 5) sc__law_sketch.nd rfl (Or.inl rfl) (pe_op op_shl pe_int (pe_op op_mod (pv 4) (pe_ix ix_list (pv 1) (pv 3) (fun _ _ => rfl)))))) pss_nil) (pss_one (ps_expr (pe_bm PySem.F.plainAttrs_list PySem.F.slot_list_append PySem.F.type_list_append mt_append (pv 2) (pa_cons (pv 5) pa_nil))))))))) (pss_one (ps_ret (pe_callTy call_tuple_of (by rfl) T.n_tuple (by decide +kernel) (pa_cons (pv 2) pa_nil)))))), ?_⟩
  rintro ⟨c, z⟩ w0 σ Q hz o k
  have hz : SzOk z := hz
  have hfew := hz.few
  have o : EnvOk w0.G σ [some (sInt c), some (sInts z), none, none, none, none] := o
  refine q_setL (R := sMaskIn z) (xs := []) (w0 := w0) .refl o el_nil fun li σ1 w1 l1 oi1 o1 n1 => ?_
  have o1 : EnvOk w1.G σ1 [some (sInt c), some (sInts z), some (sRef li), none, none, none] := o1
  refine q_for o1 (i_range1 (n := z.length) (by omega) (e_lenL (R := fun n : Nat => sNat n) (e_var rfl))) (fun _ => b_name) (fun _ => [some (sInt c), some (sInts z), some (sRef li), none, none, none])
    (fun i u => Own w0 li (sMaskIn z) (List.range i) u) (fun i u1 u2 h l => h.up l) (fun u lu ou => ⟨ou, oi1.up lu⟩) (fun i k2 σ7 u hk o7 owi N hN => ?_) (fun σ7 u o7 owi => ?_)
  · obtain ⟨ek, hi⟩ := range_at hk
    subst ek
    obtain ⟨z1, z3⟩ := hz.size k2 hi
    have zat : z[k2]? = some (at0 z k2) := at0_some hi
    have mk := mask_ok (z := at0 z k2) (n := mixN c (3 * k2)) z1
    have o7 : EnvOk u.G σ7 [some (sInt c), some (sInts z), some (sRef li), some (sNat k2), none, none] := o7
    refine q_set (s := sNat (mixN c (3 * k2))) o7 (e_call (c, 3 * k2) trivial (ea_cons (e_var rfl) (ea_cons (e_timesN (a := 3) (by decide) (e_n 3 3) (e_var rfl)) ea_nil))) fun σ8 u8 l8 o8 => ?_
    have o8 : EnvOk u8.G σ8 [some (sInt c), some (sInts z), some (sRef li), some (sNat k2), some (sNat (mixN c (3 * k2))), none] := o8
    generalize mixN c (3 * k2) = n at *
    refine q_set (s := sNat (1 + n % (2 ^ at0 z k2 - 1))) o8 (e_call (n, at0 z k2) ⟨z1, by show at0 z k2 ≤ 1000; omega⟩ (ea_cons (e_var rfl) (ea_cons (e_ixL (R := fun n : Nat => sNat n) (i := k2) zat (e_var rfl) (e_var rfl)) ea_nil))) fun σ9 u9 l9 o9 => ?_
    have o9 : EnvOk u9.G σ9 [some (sInt c), some (sInts z), some (sRef li), some (sNat k2), some (sNat n), some (sMaskIn z k2)] := o9.imp (i := 5) (s := sNat (1 + n % (2 ^ at0 z k2 - 1))) rfl fun v p => ⟨_, mk, p⟩
    have shl : ∀ e, e < at0 z k2 → 0 < 1 <<< e ∧ 1 <<< e < 2 ^ at0 z k2 := fun e he => by
      rw [Nat.shiftLeft_eq, Nat.one_mul]
      exact ⟨Nat.two_pow_pos _, Nat.pow_lt_pow_right (by decide) he⟩
    have full : 0 < 2 ^ at0 z k2 - 1 ∧ 2 ^ at0 z k2 - 1 < 2 ^ at0 z k2 := by
      have : 2 ^ 1 ≤ 2 ^ at0 z k2 := Nat.pow_le_pow_right (by decide) z1
      omega
    refine q_ifJ (fun σ' u' => Le u9 u' ∧ EnvOk u'.G σ' [some (sInt c), some (sInts z), some (sRef li), some (sNat k2), some (sNat n), some (sMaskIn z k2)]) o9
      (t_eqN (b := 0) (e_modN (b := 3) (by decide) (e_fdivN (b := 16) ⟨by decide, by decide⟩ (e_var rfl) (e_n 16 16)) (e_n 3 3)) (e_n 0 0)) (fun _ u1 lu1 ou1 N' hN' => ?_) (fun _ u1 lu1 ou1 => ⟨lu1, ou1⟩) (fun σ10 u10 ⟨l10, o10⟩ => ?_)
    · refine s_set (s := sNat (2 ^ at0 z k2 - 1)) ou1 (e_full (by omega) (e_ixL (R := fun n : Nat => sNat n) (i := k2) zat (e_var rfl) (e_var rfl))) fun σ' u' l' o' => hN' σ' u' ⟨lu1.trans l', o'.imp (i := 5) (s := sNat (2 ^ at0 z k2 - 1)) rfl fun v p => ⟨_, full, p⟩⟩
    refine q_ifJ (fun σ' u' => Le u9 u' ∧ EnvOk u'.G σ' [some (sInt c), some (sInts z), some (sRef li), some (sNat k2), some (sNat n), some (sMaskIn z k2)]) o10
      (t_test (e_eq (x := .int (c % 4)) (y := .int 1) rfl (e_modI (j := 4) (by decide) (e_var rfl) e_c) e_c)) (fun _ u1 lu1 ou1 N' hN' => ?_) (fun _ u1 lu1 ou1 => ⟨l10.trans lu1, ou1⟩) (fun σ11 u11 ⟨l11, o11⟩ => ?_)
    · have hm := Nat.mod_lt n (show at0 z k2 > 0 by omega)
      refine s_set (s := sNat (1 <<< (n % at0 z k2))) ou1 (e_shl (a := 1) (by decide) (by omega) (e_n 1 1) (e_modN (by omega) (e_var rfl) (e_ixL (R := fun n : Nat => sNat n) (i := k2) zat (e_var rfl) (e_var rfl)))) fun σ' u' l' o' => hN' σ' u' ⟨l10.trans (lu1.trans l'), o'.imp (i := 5) (s := sNat (1 <<< (n % at0 z k2))) rfl fun v p => ⟨_, shl _ hm, p⟩⟩
    refine s_app (x := k2) o11 (owi.up (l8.trans (l9.trans l11))) (by rw [List.length_range]; omega) (e_var rfl) (e_var (s := sMaskIn z k2) rfl) fun u12 l12 ow12 o12 => ?_
    refine hN σ11 u12 _ o12 (fun o => ((o.drop 3).drop 4).drop 5) ?_ fun a o q => l12.g a o (l11.g a o (l9.g a o (l8.g a o q)))
    rw [List.range_succ]
    exact ow12
  rw [List.length_range] at owi
  exact s_ret o7 (e_tupOw owi (e_var rfl)) fun v w9 l9 p => k v w9 (owi.le.trans l9) (sk_of p)
/-- pieces -/
abbrev spLPiece : Sp := spP (fun x : Int × List Nat => SzOk x.2) (fun x => [sInt x.1, sInts x.2]) (fun x => sEx (fun p : List (List Nat) => p.length ≤ 2 ∧ ∀ s ∈ p, OkSk x.2 s) sPiece)
theorem e_ixC {Γ : Env} {w : Wd} {tb : TE} {i : Nat} {x : Nat} (hx : [0, 1, 1, 2][i]? = some x) (hb : E tb Γ w (sNat i)) : E (tOp (rIxT K) (tTup (tCons (tC (.int 0)) (tCons (tC (.int 1)) (tCons (tC (.int 1)) (tCons (tC (.int 2)) tNil))))) tb) Γ w (sNat x) := by
  have ht : E (tTup (tCons (tC (.int 0)) (tCons (tC (.int 1)) (tCons (tC (.int 1)) (tCons (tC (.int 2)) tNil))))) Γ w (sNs [0, 1, 1, 2]) := fun σ w1 l o Q q => by
    refine ⟨by show 4 ≤ sizeLine; decide, fun a na => q (.ref a) (w1.new a (.tup [.int 0, .int 1, .int 1, .int 2])) (Wd.le_new na) ⟨a, _, rfl, upd_same, ?_⟩⟩
    exact .cons rfl (.cons rfl (.cons rfl (.cons rfl .nil)))
  exact e_ixT (R := fun n : Nat => sNat n) (xs := [0, 1, 1, 2]) hx ht hb
theorem ok__law_piece (T : Txt K mg) : Ok__law_piece P w K mg base spLPiece := by
  refine okP T.f__law_piece sc__law_piece (fun _ => rfl) fun cdv A outer s H E hr => ⟨_, (pss_one (ps_ret (pe_lc (own := [("_law_k", 2)]) (g := (gName 2)) (tt := tYes) (te := (tCall _ [] E0 (tCons (tOp rPlus (tOp rFdiv (tVar 0) (tC (.int 3))) (tOp rTimes (tC (.int 1000)) (tVar 2))) (tCons (tVar 1) tNil)))) rfl sc__law_piece.nd (pi_range1 rfl T.n_range (pa_cons (pe_ix ix_tup (pe_tup (pa_cons pe_int (pa_cons pe_int (pa_cons pe_int (pa_cons pe_int pa_nil))))) (pe_op op_mod (pv 0) pe_int) (fun _ _ => rfl)) pa_nil)) (blkOk_by (own := [("_law_k", 2)]) (N := N__law_piece) (sc := defScope st__law_piece) (by decide +kernel)) (fun _ _ _ _ _ => (pg_name (i := 2) sc__law_piece.nd rfl (Or.inl rfl))) (fun _ _ _ _ _ => pts_nil) (fun _ _ _ _ _ => (pe_call (ok__law_sketch T) (hr.mono (by decide)) rfl T.g__law_sketch T.f__law_sketch.kp T.b__law_sketch .nil pass0 (pa_cons (pe_op op_add (pe_op op_fdiv (pv 0) pe_int) (pe_op op_mul pe_int (pv 2))) (pa_cons (pv 1) pa_nil))))))), ?_⟩
  rintro ⟨c, z⟩ w0 σ Q hz o k
  have hz : SzOk z := hz
  have o : EnvOk w0.G σ [some (sInt c), some (sInts z), none] := o
  have h1 := Int.emod_nonneg c (show (4 : Int) ≠ 0 by decide)
  have h2 := Int.emod_lt_of_pos c (show (0 : Int) < 4 by decide)
  obtain ⟨n, hn, hn2⟩ : ∃ n, [0, 1, 1, 2][(c % 4).toNat]? = some n ∧ n ≤ 2 := by
    have hlt : (c % 4).toNat < 4 := by omega
    generalize (c % 4).toNat = i at hlt
    match i, hlt with
    | 0, _ => exact ⟨0, rfl, by decide⟩
    | 1, _ => exact ⟨1, rfl, by decide⟩
    | 2, _ => exact ⟨1, rfl, by decide⟩
    | 3, _ => exact ⟨2, rfl, by decide⟩
  refine s_ret o (el_lcM (Z := fun _ : Nat => sEx (fun s : List Nat => OkSk z s) sNs) (fun k => k) (i_range1 (n := n) (by omega) (e_ixC hn (e_is (e_modI (j := 4) (by decide) (e_var rfl) e_c) (int_n h1)))) (by rw [List.length_range]; omega) (fun _ => b_name) (by decide)
    (fun k _ => e_call (c / 3 + 1000 * (k : Int), z) hz (ea_cons (e_plusI (e_fdivI (j := 3) ⟨by decide, by decide⟩ (e_var rfl) e_c) (e_timesI (i := 1000) (.inl ⟨by decide, by decide⟩) e_c (e_var (s := sInt (k : Int)) rfl))) (ea_cons (e_var rfl) ea_nil)))).e fun v w1 l1 p => k v w1 l1 ?_
  rw [List.map_id'] at p
  obtain ⟨a, vs, rfl, ha, r⟩ := p
  obtain ⟨ys, e1, e2, e3⟩ := allEx (p := fun (_ : Nat) (s : List Nat) => OkSk z s) (S := fun _ s => sNs s) r
  rw [List.length_range] at e1
  refine ⟨ys, ⟨by show ys.length ≤ 2; omega, fun s hs => ?_⟩, a, vs, rfl, ha, all_len r (by rw [e1, List.length_range]) fun i v x y q0 q1 q2 => e3 i v x y q0 q1 q2⟩
  obtain ⟨i, hi⟩ := List.mem_iff_getElem?.mp hs
  exact e2 i i s (at_range (by rw [← e1]; exact (List.getElem?_eq_some_iff.mp hi).1)) hi
end
end R40

set_option linter.all false
set_option maxHeartbeats 4000000
/-! Disks: which are in a sketch; what a deed does to them; searching breadth first. -/
namespace M40
def picksF (m : Nat) (d : List Nat) : List (List Nat) := ((List.range 16).filter fun v => m.testBit v).map fun v => d ++ [v]
def disksF (s : List Nat) : List (List Nat) := s.foldl (fun ds m => ds.flatMap (picksF m)) [[]]
theorem picks_mem {m : Nat} {d x : List Nat} : x ∈ picksF m d ↔ ∃ v, v < 16 ∧ m.testBit v = true ∧ x = d ++ [v] := by
  unfold picksF
  rw [List.mem_map]
  constructor
  · rintro ⟨v, h, rfl⟩
    obtain ⟨h1, h2⟩ := List.mem_filter.mp h
    exact ⟨v, List.mem_range.mp h1, h2, rfl⟩
  · rintro ⟨v, h1, h2, rfl⟩
    exact ⟨v, List.mem_filter.mpr ⟨List.mem_range.mpr h1, h2⟩, rfl⟩
theorem nodup_map_inj {α β : Type} {f : α → β} (hf : ∀ a b, f a = f b → a = b) {l : List α} (h : l.Nodup) : (l.map f).Nodup :=
  List.pairwise_map.mpr (List.Pairwise.imp (fun {a b} ne e => ne (hf a b e)) h)
theorem picks_nd (m : Nat) (d : List Nat) : (picksF m d).Nodup :=
  nodup_map_inj (fun a b e => by
    have := List.append_cancel_left e
    exact (List.cons.inj this).1) (List.nodup_range.sublist List.filter_sublist)
theorem flat_nd {f : List Nat → List (List Nat)} (hf : ∀ d, (f d).Nodup) (hd : ∀ a b x, x ∈ f a → x ∈ f b → a = b) : ∀ l : List (List Nat), l.Nodup → (l.flatMap f).Nodup
  | [], _ => List.nodup_nil
  | a :: r, h => by
    obtain ⟨h1, h2⟩ := List.nodup_cons.mp h
    rw [List.flatMap_cons]
    refine List.nodup_append.mpr ⟨hf a, flat_nd hf hd r h2, fun x hx y hy e => ?_⟩
    subst e
    obtain ⟨b, hb, hx2⟩ := List.mem_flatMap.mp hy
    exact h1 (hd a b x hx hx2 ▸ hb)
theorem disks_nd (s : List Nat) : (disksF s).Nodup := by
  unfold disksF
  suffices h : ∀ (s : List Nat) (l : List (List Nat)), l.Nodup → (s.foldl (fun ds m => ds.flatMap (picksF m)) l).Nodup from h s [[]] (List.nodup_cons.mpr ⟨List.not_mem_nil, List.nodup_nil⟩)
  intro s
  induction s with
  | nil => intro l h; exact h
  | cons m r ih =>
    intro l h
    refine ih _ (flat_nd (picks_nd m) (fun a b x h1 h2 => ?_) l h)
    obtain ⟨v1, _, _, e1⟩ := picks_mem.mp h1
    obtain ⟨v2, _, _, e2⟩ := picks_mem.mp h2
    rw [e1] at e2
    exact (List.append_inj' e2 rfl).1
/-- in: cell by cell -/
theorem in_iff {s d : List Nat} (hl : s.length = d.length) : inF s d = true ↔ ∀ i, i < s.length → (at0 s i).testBit (at0 d i) = true := by
  unfold inF
  rw [List.all_eq_true]
  constructor
  · intro h i hi
    have h1 := at0_some hi
    have h2 := at0_some (l := d) (i := i) (by omega)
    exact h (at0 s i, at0 d i) (List.mem_iff_getElem?.mpr ⟨i, List.getElem?_zip_eq_some.mpr ⟨h1, h2⟩⟩)
  · intro h p hp
    obtain ⟨i, hi⟩ := List.mem_iff_getElem?.mp hp
    rw [List.getElem?_zip_eq_some] at hi
    have := h i (List.getElem?_eq_some_iff.mp hi.1).1
    rw [at0_of hi.1, at0_of hi.2] at this
    exact this
theorem at0_app {a b : List Nat} {i : Nat} : at0 (a ++ b) i = if i < a.length then at0 a i else at0 b (i - a.length) := by
  unfold at0
  rw [List.getD_eq_getElem?_getD]
  split
  · rename_i h
    rw [List.getElem?_append_left h, List.getD_eq_getElem?_getD]
  · rename_i h
    rw [List.getElem?_append_right (by omega), List.getD_eq_getElem?_getD]
theorem disks_mem {s d : List Nat} : d ∈ disksF s ↔ d.length = s.length ∧ ∀ i, i < s.length → at0 d i < 16 ∧ (at0 s i).testBit (at0 d i) = true := by
  suffices h : ∀ (s pre : List Nat) (l : List (List Nat)), (∀ d, d ∈ l ↔ d.length = pre.length ∧ ∀ i, i < pre.length → at0 d i < 16 ∧ (at0 pre i).testBit (at0 d i) = true) →
      ∀ d, d ∈ s.foldl (fun ds m => ds.flatMap (picksF m)) l ↔ d.length = (pre ++ s).length ∧ ∀ i, i < (pre ++ s).length → at0 d i < 16 ∧ (at0 (pre ++ s) i).testBit (at0 d i) = true by
    refine h s [] [[]] (fun d => ?_) d
    rw [List.mem_singleton]
    constructor
    · rintro rfl
      exact ⟨rfl, fun i hi => absurd hi (Nat.not_lt_zero i)⟩
    · rintro ⟨h1, _⟩
      exact List.eq_nil_of_length_eq_zero h1
  intro s
  induction s with
  | nil =>
    intro pre l h d
    rw [List.append_nil]
    exact h d
  | cons m r ih =>
    intro pre l h d
    have e : pre ++ m :: r = (pre ++ [m]) ++ r := by rw [List.append_assoc]; rfl
    rw [e]
    refine ih (pre ++ [m]) _ (fun d => ?_) d
    rw [List.mem_flatMap]
    constructor
    · rintro ⟨d0, h0, h1⟩
      obtain ⟨v, hv, hb, rfl⟩ := picks_mem.mp h1
      obtain ⟨q1, q2⟩ := (h d0).mp h0
      refine ⟨by rw [List.length_append, List.length_append, q1]; rfl, fun i hi => ?_⟩
      rw [at0_app, at0_app, q1]
      split
      · rename_i hlt
        exact q2 i hlt
      · rename_i hlt
        rw [List.length_append] at hi
        have ei : i - pre.length = 0 := by
          have hi : i < pre.length + 1 := hi
          omega
        rw [ei]
        exact ⟨hv, hb⟩
    · rintro ⟨q1, q2⟩
      rw [List.length_append] at q1
      have q1 : d.length = pre.length + 1 := q1
      have eq : d = d.take pre.length ++ [at0 d pre.length] := by
        have h1 : d.take (pre.length + 1) = d := List.take_of_length_le (by omega)
        have h2 := List.take_add_one (l := d) (i := pre.length)
        rw [h1, at0_some (l := d) (i := pre.length) (by omega)] at h2
        exact h2
      have hlt : (d.take pre.length).length = pre.length := by rw [List.length_take]; omega
      have hq := q2 pre.length (by rw [List.length_append]; show _ < _ + 1; omega)
      rw [at0_app, if_neg (Nat.lt_irrefl _), Nat.sub_self] at hq
      refine ⟨d.take pre.length, (h _).mpr ⟨hlt, fun i hi => ?_⟩, picks_mem.mpr ⟨at0 d pre.length, hq.1, hq.2, eq⟩⟩
      have h3 := q2 i (by rw [List.length_append]; omega)
      rw [at0_app, if_pos hi] at h3
      have h4 : at0 (d.take pre.length) i = at0 d i := by
        unfold at0
        rw [List.getD_eq_getElem?_getD, List.getD_eq_getElem?_getD, List.getElem?_take, if_pos hi]
      rw [h4]
      exact h3
theorem bit_small {m v z : Nat} (hm : m < 2 ^ z) (h : m.testBit v = true) : v < z := by
  refine Nat.lt_of_not_le fun hle => ?_
  rw [Nat.testBit_lt_two_pow (Nat.lt_of_lt_of_le hm (Nat.pow_le_pow_right (by decide) hle))] at h
  cases h
/-- the disks of a sketch that fits -/
theorem disks_in {z s d : List Nat} (hz : ∀ i, i < z.length → at0 z i ≤ 3) (hs : OkSk z s) : d ∈ disksF s ↔ OkDk z d ∧ inF s d = true := by
  rw [disks_mem]
  constructor
  · rintro ⟨h1, h2⟩
    refine ⟨⟨by rw [h1, hs.1], fun i hi => ?_⟩, (in_iff h1.symm).mpr fun i hi => (h2 i hi).2⟩
    exact bit_small (hs.2 i hi).2 (h2 i (by rw [hs.1]; exact hi)).2
  · rintro ⟨h1, h2⟩
    have hl : s.length = d.length := by rw [hs.1, h1.1]
    refine ⟨hl.symm, fun i hi => ⟨?_, (in_iff hl).mp h2 i hi⟩⟩
    have h3 := h1.2 i (by rw [← hs.1]; exact hi)
    have h4 := hz i (by rw [← hs.1]; exact hi)
    omega
/-! ### after -/
theorem after_len {d : List Nat} {e : Deed} : (afterF d e).length = d.length := foldl_len (fun _ _ => List.length_set ..) _ _
/-- a cell behind a deed: its change where there is one -/
theorem after_at {d : List Nat} : ∀ (l : List (Nat × Src)) (m : List Nat), Asc (l.map (·.1)) → m.length = d.length → (∀ p ∈ l, p.1 < d.length) → (∀ p ∈ l, at0 (l.foldl (fun vs p => vs.set p.1 (srcF d p.2)) m) p.1 = srcF d p.2) ∧ ∀ i, i ∉ l.map (·.1) → at0 (l.foldl (fun vs p => vs.set p.1 (srcF d p.2)) m) i = at0 m i
  | [], m, _, _, _ => ⟨fun p h => (nomatch h), fun i _ => rfl⟩
  | q :: r, m, ha, hm, hl => by
    obtain ⟨h1, h2⟩ := List.pairwise_cons.mp ha
    obtain ⟨a, b⟩ := after_at r (m.set q.1 (srcF d q.2)) h2 (by rw [List.length_set, hm]) fun p hp => hl p (List.mem_cons_of_mem _ hp)
    have hq : q.1 ∉ r.map (·.1) := fun h => Nat.lt_irrefl _ (h1 q.1 h)
    refine ⟨fun p hp => ?_, fun i hi => ?_⟩
    · rcases List.mem_cons.mp hp with rfl | hp
      · rw [List.foldl_cons, b _ hq, at0_set, if_pos ⟨rfl, by rw [hm]; exact hl _ List.mem_cons_self⟩]
      · exact a p hp
    · rw [List.foldl_cons, b i (fun h => hi (List.mem_cons_of_mem _ h)), at0_set, if_neg fun h => hi (by rw [← h.1]; exact List.mem_cons_self)]
theorem after_in {z d : List Nat} {e : Deed} (he : OkDeed z e) (hd : d.length = z.length) {p : Nat × Src} (hp : p ∈ e.chg) : at0 (afterF d e) p.1 = srcF d p.2 :=
  (after_at e.chg d he.cAsc rfl fun p hp => by rw [hd]; exact (he.cIn p hp).1).1 p hp
theorem after_out {z d : List Nat} {e : Deed} (he : OkDeed z e) (hd : d.length = z.length) {i : Nat} (hi : i ∉ e.chg.map (·.1)) : at0 (afterF d e) i = at0 d i :=
  (after_at e.chg d he.cAsc rfl fun p hp => by rw [hd]; exact (he.cIn p hp).1).2 i hi
theorem after_ok {z d : List Nat} {e : Deed} (he : OkDeed z e) (hd : OkDk z d) : OkDk z (afterF d e) := by
  refine ⟨by rw [after_len, hd.1], fun i hi => ?_⟩
  by_cases hm : i ∈ e.chg.map (·.1)
  · obtain ⟨p, hp, rfl⟩ := List.mem_map.mp hm
    rw [after_in he hd.1 hp]
    obtain ⟨c1, c2⟩ := he.cIn p hp
    cases hs : p.2 with
    | put v =>
      rw [hs] at c2
      exact c2
    | copy o =>
      rw [hs] at c2
      have c2 : o < z.length ∧ at0 z o ≤ at0 z p.1 := c2
      exact Nat.lt_of_lt_of_le (hd.2 o c2.1) c2.2
  · rw [after_out he hd.1 hm]
    exact hd.2 i hi
/-! ### breadth first -/
def growF (piece : List (List Nat)) (d : List Nat) (ks : List (List Nat)) (e : Deed) : List (List Nat) := if canF d e = true then (if afterF d e ∉ ks ∧ hasF piece (afterF d e) = false then ks ++ [afterF d e] else ks) else ks
def turnF (deeds : List Deed) (piece : List (List Nat)) (ks : List (List Nat)) (k : Nat) : List (List Nat) := match ks[k]? with
  | none => ks
  | some d => deeds.foldl (growF piece d) ks
def bfsF (deeds : List Deed) (piece : List (List Nat)) (start : List (List Nat)) (n : Nat) : List (List Nat) := (List.range n).foldl (turnF deeds piece) start
def stepsF (deeds : List Deed) (first : List Nat) (piece : List (List Nat)) : List (List Nat) := bfsF deeds piece ((disksF first).filter fun d => !hasF piece d) 5000
def startsF (deeds : List Deed) (first earlier : List Nat) (piece : List (List Nat)) : List (List Nat) := (stepsF deeds first []).filter fun d => inF earlier d && !hasF piece d
/-- the law's own answer: a later disk is met -/
def Missing (deeds : List Deed) (first earlier later : List Nat) (piece : List (List Nat)) : Prop := ∃ k d, k < 5000 ∧ (bfsF deeds piece (startsF deeds first earlier piece) k)[k]? = some d ∧ inF later d = true
theorem bfs_succ {deeds : List Deed} {piece start : List (List Nat)} {n : Nat} : bfsF deeds piece start (n + 1) = turnF deeds piece (bfsF deeds piece start n) n := by
  unfold bfsF
  rw [List.range_succ, List.foldl_append]
  rfl
structure KsOk (z : List Nat) (ks : List (List Nat)) : Prop where
  nd : ks.Nodup
  ok : ∀ d ∈ ks, OkDk z d
theorem KsOk.few {m : Mach} (hm : OkM m) {ks : List (List Nat)} (h : KsOk m.sizes ks) : ks.length ≤ 81 := by
  have q := few_lists (B := 3) (n := m.sizes.length) ks h.nd fun d hd => ⟨(h.ok d hd).1, fun x hx => by
    obtain ⟨i, hi, rfl⟩ := mem_at0.mp hx
    rw [(h.ok d hd).1] at hi
    have h1 := (h.ok d hd).2 i hi
    have h2 := (hm.size i hi).2
    omega⟩
  have q2 : 3 ^ m.sizes.length ≤ 3 ^ 4 := Nat.pow_le_pow_right (by decide) hm.few
  have q3 : 3 ^ 4 = 81 := rfl
  omega
theorem grow_ok {z d : List Nat} {piece ks : List (List Nat)} {e : Deed} (he : OkDeed z e) (hd : OkDk z d) (h : KsOk z ks) : KsOk z (growF piece d ks e) := by
  unfold growF
  split
  · split
    · rename_i q
      refine ⟨List.nodup_append.mpr ⟨h.nd, List.nodup_cons.mpr ⟨List.not_mem_nil, List.nodup_nil⟩, fun a ha b hb e => ?_⟩, fun x hx => ?_⟩
      · rw [List.mem_singleton.mp hb] at e
        exact q.1 (e ▸ ha)
      · rcases List.mem_append.mp hx with hx | hx
        · exact h.ok x hx
        · rw [List.mem_singleton.mp hx]
          exact after_ok he hd
    · exact h
  · exact h
theorem grow_pre {d : List Nat} {piece ks : List (List Nat)} {e : Deed} : ∃ r, growF piece d ks e = ks ++ r := by
  unfold growF
  split
  · split
    · exact ⟨_, rfl⟩
    · exact ⟨[], (List.append_nil _).symm⟩
  · exact ⟨[], (List.append_nil _).symm⟩
theorem grows_pre {d : List Nat} {piece : List (List Nat)} : ∀ (l : List Deed) (ks : List (List Nat)), ∃ r, l.foldl (growF piece d) ks = ks ++ r
  | [], ks => ⟨[], (List.append_nil _).symm⟩
  | e :: l, ks => by
    obtain ⟨r1, e1⟩ := grow_pre (d := d) (piece := piece) (ks := ks) (e := e)
    obtain ⟨r2, e2⟩ := grows_pre l (growF piece d ks e)
    exact ⟨r1 ++ r2, by rw [List.foldl_cons, e2, e1, List.append_assoc]⟩
theorem grows_ok {z d : List Nat} {piece : List (List Nat)} (hd : OkDk z d) : ∀ (l : List Deed) (ks : List (List Nat)), (∀ e ∈ l, OkDeed z e) → KsOk z ks → KsOk z (l.foldl (growF piece d) ks)
  | [], ks, _, h => h
  | e :: l, ks, he, h => grows_ok hd l _ (fun x hx => he x (List.mem_cons_of_mem _ hx)) (grow_ok (he e List.mem_cons_self) hd h)
theorem turn_ok {z : List Nat} {deeds : List Deed} {piece ks : List (List Nat)} {k : Nat} (he : ∀ e ∈ deeds, OkDeed z e) (h : KsOk z ks) : KsOk z (turnF deeds piece ks k) := by
  unfold turnF
  split
  · exact h
  · rename_i d q
    exact grows_ok (h.ok d (List.mem_of_getElem? q)) deeds ks he h
theorem bfs_ok {z : List Nat} {deeds : List Deed} {piece start : List (List Nat)} (he : ∀ e ∈ deeds, OkDeed z e) (h : KsOk z start) : ∀ n, KsOk z (bfsF deeds piece start n)
  | 0 => h
  | n + 1 => by
    rw [bfs_succ]
    exact turn_ok he (bfs_ok he h n)
theorem start_ok {z first : List Nat} {p : List Nat → Bool} (hz : ∀ i, i < z.length → at0 z i ≤ 3) (hf : OkSk z first) : KsOk z ((disksF first).filter p) :=
  ⟨(disks_nd first).sublist List.filter_sublist, fun d hd => ((disks_in hz hf).mp (List.mem_filter.mp hd).1).1⟩
theorem KsOk.filter {z : List Nat} {ks : List (List Nat)} {p : List Nat → Bool} (h : KsOk z ks) : KsOk z (ks.filter p) := ⟨h.nd.sublist List.filter_sublist, fun d hd => h.ok d (List.mem_filter.mp hd).1⟩
end M40

set_option Elab.async false
set_option linter.all false
set_option maxRecDepth 100000
set_option maxHeartbeats 1000000
/-! Loops that ask of all; walks: in, has, disks, can, after. -/
namespace R40
open PySem PySem.Spec PyProof.Rows L2 M40
section
variable {Γ : Env} {w : Wd} {s t u : Slot} {te ta tb tc : TE} {tt tu : TT} {K : PySem.W.Frag} {α β : Type} {R : α → Slot} {xs : List α} {D : Ends} {σ : L2.St} {ts ts1 ts2 tz : TS}
/-- for: where p fails, rv is given back -/
theorem q_forAll {wi : TI} {g : TG} {js : List Nat} {f : α → Env → Env} {w0 : Wd} (p : α → Bool) (rv : V) (l0 : Le w0 w) (o : EnvOk w.G σ Γ) (h : I wi Γ w xs R) (hg : ∀ x, B g (R x) js (f x)) (hdrop : ∀ x (G : Hp) (σ' : L2.St), EnvOk G σ' (f x Γ) → EnvOk G σ' Γ)
    (hb : ∀ x ∈ xs, ∀ (σ' : L2.St) (w1 : Wd), EnvOk w1.G σ' (f x Γ) → Le w0 w1 → ∀ N : L2.St → Hp → Prop, (p x = true → ∀ w2 : Wd, Le w1 w2 → N σ' w2.H) → (p x = false → ∀ (v : V) (w2 : Wd), Le w1 w2 → v = rv → D.rt v w2.H) → ts { D with nx := N, ct := N, bk := tz D } σ' w1.H)
    (hf : xs.all p = false → ∀ w2 : Wd, Le w0 w2 → D.rt rv w2.H) (hd : xs.all p = true → ∀ (σ' : L2.St) (w2 : Wd), Le w0 w2 → EnvOk w2.G σ' Γ → tz D σ' w2.H) : tSeq (tFor wi g ts) tz D σ w.H := by
  refine q_for o h hg (fun _ => Γ) (fun i w2 => Le w0 w2 ∧ (xs.take i).all p = true) (fun _ _ _ h l => ⟨h.1.trans l, h.2⟩) (fun w2 l2 o2 => ⟨o2, l0.trans l2, rfl⟩) (fun i x σ2 w2 hx o2 h2 N hN => ?_) (fun σ2 w2 o2 h2 => ?_)
  · refine hb x (List.mem_of_getElem? hx) σ2 w2 o2 h2.1 N (fun e w3 l3 => hN σ2 w3 _ (o2.up l3) (hdrop x _ _) ⟨h2.1.trans l3, ?_⟩ l3.g) (fun e v w3 l3 ev => ?_)
    · rw [List.take_add_one, hx, List.all_append, h2.2, Bool.true_and]
      show (p x && true) = true
      rw [e]
      rfl
    · rw [ev]
      refine hf ?_ w3 (h2.1.trans l3)
      rw [List.all_eq_false]
      exact ⟨x, List.mem_of_getElem? hx, by rw [e]; decide⟩
  · have h3 := h2.2
    rw [List.take_length] at h3
    exact hd h3 σ2 w2 h2.1 o2
end
section
variable {P : Program} {w : World} {K : PySem.W.Frag} {mg : Str → Option Value} {base : Heap}
abbrev spLIn : Sp := spP (fun _ : List Nat × List Nat => True) (fun x => [sNs x.1, sNs x.2]) (fun x => sBl (inF x.1 x.2))
theorem ok__law_in (T : Txt K mg) : Ok__law_in P w K mg base spLIn := by
  refine okP T.f__law_in sc__law_in (fun _ => rfl) fun cdv A outer s H E hr => ⟨_, (pss_cons (ps_for PassesOwn.never rfl (RZ.pi_zipA (by rfl) T.n_zip (pa_cons (pv 0) (pa_cons (pv 1) pa_nil))) (pg_tup rfl (pgs_cons (pg_name (i := 2) sc__law_in.nd rfl (Or.inl rfl)) (pgs_cons (pg_name (i := 3) sc__law_in.nd rfl (Or.inl rfl)) pgs_nil))) (pss_one (ps_if (pt_cmpR op_eq (pe_op op_and (pe_op op_shr (pv 2) (pv 3)) pe_int) pe_int (nomark _)) (pss_one (ps_ret pe_bl)) pss_nil))) (pss_one (ps_ret pe_bl))), ?_⟩
  rintro ⟨sk, d⟩ w0 σ Q _ o k
  have o : EnvOk w0.G σ [some (sNs sk), some (sNs d), none, none] := o
  have k : ∀ v w2, Le w0 w2 → (sBl (inF sk d)).P w2.G v → Q v w2.H := k
  refine q_forAll (xs := sk.zip d) (fun p => p.1.testBit p.2) (.bl false) .refl o (i_zipTT (R := fun n : Nat => sNat n) (S := fun n : Nat => sNat n) (e_var rfl) (e_var rfl)) (fun _ => b_t2 b_name b_name) (fun x G σ' o => (o.drop 2).drop 3) (fun p hp σ1 w1 o1 l1 N hN hF => ?_) (fun e w2 l2 => k _ w2 l2 (by
    show V.bl false = V.bl (inF sk d)
    unfold inF
    rw [e])) (fun e σ2 w2 l2 o2 => ?_)
  · refine s_if o1 (t_bit0 (a := p.1) (b := p.2) (e_var rfl) (e_var rfl)) (fun q w3 l3 o3 => s_ret o3 e_c fun v w4 l4 pv => hF (by simpa using q) v w4 (l3.trans l4) pv) (fun q w3 l3 o3 => hN (by simpa using q) w3 l3)
  · refine s_ret o2 e_c fun v w3 l3 pv => k v w3 (l2.trans l3) ?_
    unfold inF
    rw [e]
    exact pv
abbrev spLHas : Sp := spP (fun _ : List (List Nat) × List Nat => True) (fun x => [sPiece x.1, sNs x.2]) (fun x => sBl (hasF x.1 x.2))
theorem has_all (piece : List (List Nat)) (d : List Nat) : hasF piece d = !(piece.all fun s => !inF s d) := by
  unfold hasF
  rw [Bool.eq_iff_iff]
  simp
theorem ok__law_has (T : Txt K mg) : Ok__law_has P w K mg base spLHas := by
  refine okP T.f__law_has sc__law_has (fun _ => rfl) fun cdv A outer s H E hr => ⟨_, (pss_cons (ps_for PassesOwn.never rfl (pi_list (pv 0)) (pg_name (i := 2) sc__law_has.nd rfl (Or.inl rfl)) (pss_one (ps_if (pt_val (pe_call (ok__law_in T) (hr.mono (by decide)) rfl T.g__law_in T.f__law_in.kp T.b__law_in .nil pass0 (pa_cons (pv 2) (pa_cons (pv 1) pa_nil)))) (pss_one (ps_ret pe_bl)) pss_nil))) (pss_one (ps_ret pe_bl))), ?_⟩
  rintro ⟨piece, d⟩ w0 σ Q _ o k
  have o : EnvOk w0.G σ [some (sPiece piece), some (sNs d), none] := o
  have k : ∀ v w2, Le w0 w2 → (sBl (hasF piece d)).P w2.G v → Q v w2.H := k
  refine q_forAll (xs := piece) (fun s => !inF s d) (.bl true) .refl o (i_list (R := sNs) (e_var rfl)) (fun _ => b_name) (fun x G σ' o => o.drop 2) (fun p hp σ1 w1 o1 l1 N hN hF => ?_) (fun e w2 l2 => k _ w2 l2 (by
    show V.bl true = V.bl (hasF piece d)
    rw [has_all, e]
    rfl)) (fun e σ2 w2 l2 o2 => ?_)
  · refine s_if o1 (t_B (e_call (p, d) trivial (ea_cons (e_var rfl) (ea_cons (e_var rfl) ea_nil)))) (fun q w3 l3 o3 => s_ret o3 e_c fun v w4 l4 pv => hF (by rw [show inF p d = true from q]; rfl) v w4 (l3.trans l4) pv) (fun q w3 l3 o3 => hN (by rw [show inF p d = false from q]; rfl) w3 l3)
  · refine s_ret o2 e_c fun v w3 l3 pv => k v w3 (l2.trans l3) ?_
    rw [has_all, e]
    exact pv
/-! ### can, after -/
structure AtDeed where
  z : List Nat
  deeds : List Deed
  d : List Nat
  k : Nat
  e : Deed
structure AtOk (x : AtDeed) : Prop where
  at_ : x.deeds[x.k]? = some x.e
  ok : OkDeed x.z x.e
  len : x.d.length = x.z.length
abbrev sDeeds (l : List Deed) : Slot := sLst sDeed l
abbrev spLCan : Sp := spP (fun x : AtDeed => AtOk x) (fun x => [sDeeds x.deeds, sNs x.d, sNat x.k]) (fun x => sBl (canF x.d x.e))
theorem ok__law_can (T : Txt K mg) : Ok__law_can P w K mg base spLCan := by
  refine okP T.f__law_can sc__law_can (fun _ => rfl) fun cdv A outer s H E hr => ⟨_, (pss_cons (ps_for PassesOwn.never rfl (pi_tup (pe_ix ix_tup (pe_ix ix_list (pv 0) (pv 2) (fun _ _ => rfl)) pe_int (fun _ _ => rfl))) (pg_tup rfl (pgs_cons (pg_name (i := 3) sc__law_can.nd rfl (Or.inl rfl)) (pgs_cons (pg_name (i := 4) sc__law_can.nd rfl (Or.inl rfl)) pgs_nil))) (pss_one (ps_if (pt_cmpR op_eq (pe_op op_and (pe_op op_shr (pv 4) (pe_ix ix_tup (pv 1) (pv 3) (fun _ _ => rfl))) pe_int) pe_int (nomark _)) (pss_one (ps_ret pe_bl)) pss_nil))) (pss_one (ps_ret pe_bl))), ?_⟩
  rintro x w0 σ Q hx o k
  have hx : AtOk x := hx
  have o : EnvOk w0.G σ [some (sDeeds x.deeds), some (sNs x.d), some (sNat x.k), none, none] := o
  have k : ∀ v w2, Le w0 w2 → (sBl (canF x.d x.e)).P w2.G v → Q v w2.H := k
  refine q_forAll (xs := x.e.guard) (fun p => p.2.testBit (at0 x.d p.1)) (.bl false) .refl o (i_tup (R := sPr) (e_ix3b (s := sAny) (t := sTup sPr x.e.guard) (u := sTup sChg x.e.chg) (e_ixL (R := sDeed) hx.at_ (e_var rfl) (e_var rfl)))) (fun _ => b_t2 b_name b_name) (fun x G σ' o => (o.drop 3).drop 4) (fun p hp σ1 w1 o1 l1 N hN hF => ?_) (fun e w2 l2 => k _ w2 l2 (by
    show V.bl false = V.bl (canF x.d x.e)
    unfold canF
    rw [e])) (fun e σ2 w2 l2 o2 => ?_)
  · have hp1 := (hx.ok.gIn p hp).1
    refine s_if o1 (t_bit0 (a := p.2) (b := at0 x.d p.1) (e_var rfl) (e_ixT (R := fun n : Nat => sNat n) (i := p.1) (at0_some (by rw [hx.len]; exact hp1)) (e_var rfl) (e_var rfl))) (fun q w3 l3 o3 => s_ret o3 e_c fun v w4 l4 pv => hF (by simpa using q) v w4 (l3.trans l4) pv) (fun q w3 l3 o3 => hN (by simpa using q) w3 l3)
  · refine s_ret o2 e_c fun v w3 l3 pv => k v w3 (l2.trans l3) ?_
    unfold canF
    rw [e]
    exact pv
theorem after_take {d : List Nat} {l : List (Nat × Src)} {i : Nat} {p : Nat × Src} {m : List Nat} (h : l[i]? = some p) :
    (l.take (i + 1)).foldl (fun vs p => vs.set p.1 (srcF d p.2)) m = ((l.take i).foldl (fun vs p => vs.set p.1 (srcF d p.2)) m).set p.1 (srcF d p.2) := by
  rw [List.take_add_one, h, List.foldl_append]
  rfl
abbrev spLAfter : Sp := spP (fun x : AtDeed => AtOk x) (fun x => [sDeeds x.deeds, sNs x.d, sNat x.k]) (fun x => sNs (afterF x.d x.e))
theorem ok__law_after (T : Txt K mg) : Ok__law_after P w K mg base spLAfter := by
  refine okP T.f__law_after sc__law_after (fun _ => rfl) fun cdv A outer s H E hr => ⟨_, (pss_cons (ps_set (i := 3) sc__law_after.nd rfl (Or.inl rfl) (pe_callTy call_list_of (by rfl) T.n_list (by decide +kernel) (pa_cons (pv 1) pa_nil))) (pss_cons (ps_for PassesOwn.never rfl (pi_tup (pe_ix ix_tup (pe_ix ix_list (pv 0) (pv 2) (fun _ _ => rfl)) pe_int (fun _ _ => rfl))) (pg_tup rfl (pgs_cons (pg_name (i := 4) sc__law_after.nd rfl (Or.inl rfl)) (pgs_cons (pg_name (i := 5) sc__law_after.nd rfl (Or.inl rfl)) pgs_nil))) (pss_one (ps_asg (pe_ifExp (pt_cmpR op_eq (pe_ix ix_tup (pv 5) pe_int (fun _ _ => rfl)) pe_str (nomark _)) (pe_ix ix_tup (pv 5) pe_int (fun _ _ => rfl)) (pe_ix ix_tup (pv 1) (pe_ix ix_tup (pv 5) pe_int (fun _ _ => rfl)) (fun _ _ => rfl))) (pg_sub (pv 3) (pv 4) set_list)))) (pss_one (ps_ret (pe_callTy call_tuple_of (by rfl) T.n_tuple (by decide +kernel) (pa_cons (pv 3) pa_nil)))))), ?_⟩
  rintro x w0 σ Q hx o k
  have hx : AtOk x := hx
  have o : EnvOk w0.G σ [some (sDeeds x.deeds), some (sNs x.d), some (sNat x.k), none, none, none] := o
  have k : ∀ v w2, Le w0 w2 → (sNs (afterF x.d x.e)).P w2.G v → Q v w2.H := k
  refine q_setL (R := fun n : Nat => sNat n) (xs := x.d) (w0 := w0) .refl o (el_listT (e_var rfl)) fun l σ1 w1 l1 ow1 o1 n1 => ?_
  have o1 : EnvOk w1.G σ1 [some (sDeeds x.deeds), some (sNs x.d), some (sNat x.k), some (sRef l), none, none] := o1
  refine q_for o1 (i_tup (R := sChg) (xs := x.e.chg) (e_ix3c (s := sAny) (t := sTup sPr x.e.guard) (u := sTup sChg x.e.chg) (e_ixL (R := sDeed) hx.at_ (e_var rfl) (e_var rfl)))) (fun p => b_t2 b_name (B.imp (b_name (s := sT2 (sStr (srcKind p.2)) (sNat (srcNum p.2)))) fun _ _ h => src_kind h))
    (fun _ => [some (sDeeds x.deeds), some (sNs x.d), some (sNat x.k), some (sRef l), none, none]) (fun i u => Own w0 l (fun n : Nat => sNat n) ((x.e.chg.take i).foldl (fun (vs : List Nat) (p : Nat × Src) => vs.set p.1 (srcF x.d p.2)) x.d) u)
    (fun i u1 u2 h l => h.up l) (fun u lu ou => ⟨ou, ow1.up lu⟩) (fun i p σ2 u hp o2 ow N hN => ?_) (fun σ2 u o2 ow => ?_)
  · obtain ⟨c1, c2⟩ := hx.ok.cIn p (List.mem_of_getElem? hp)
    have hlen : ((x.e.chg.take i).foldl (fun (vs : List Nat) (p : Nat × Src) => vs.set p.1 (srcF x.d p.2)) x.d).length = x.d.length := foldl_len (fun _ _ => List.length_set ..) _ _
    have fin : ∀ w3 : Wd, LeB [l] u w3 → Own w0 l (fun n : Nat => sNat n) (((x.e.chg.take i).foldl (fun (vs : List Nat) (p : Nat × Src) => vs.set p.1 (srcF x.d p.2)) x.d).set p.1 (srcF x.d p.2)) w3 → EnvOk w3.G σ2 [some (sDeeds x.deeds), some (sNs x.d), some (sNat x.k), some (sRef l), some (sNat p.1), some (sT2 (sStr (srcKind p.2)) (sNat (srcNum p.2)))] → N σ2 w3.H := fun w3 l3 ow3 o3 =>
      hN σ2 w3 _ o3 (fun o => (o.drop 4).drop 5) (by rw [after_take hp]; exact ow3) l3.g
    have o2 : EnvOk u.G σ2 [some (sDeeds x.deeds), some (sNs x.d), some (sNat x.k), some (sRef l), some (sNat p.1), some (sT2 (sStr (srcKind p.2)) (sNat (srcNum p.2)))] := o2
    obtain ⟨c, r⟩ := p
    cases r with
    | put v =>
      refine s_put (x := v) o2 ow (by rw [hlen, hx.len]; exact c1) (e_if (b := true) (t_is (t_test (e_eq (x := .str "set") (y := .str "set") rfl (e_ix2a (s := sStr "set") (t := sNat v) (e_var rfl)) e_c)) (decide_eq_true rfl)) (fun _ => e_ix2b (s := sStr "set") (t := sNat v) (e_var rfl)) (fun q => nomatch q)) (e_var rfl) (e_var rfl) fun w3 l3 ow3 o3 => fin w3 l3 ow3 o3
    | copy b =>
      have hb : b < x.z.length := (show b < x.z.length ∧ at0 x.z b ≤ at0 x.z c from c2).1
      refine s_put (x := at0 x.d b) o2 ow (by rw [hlen, hx.len]; exact c1) (e_if (b := false) (t_is (t_test (e_eq (x := .str "copy") (y := .str "set") rfl (e_ix2a (s := sStr "copy") (t := sNat b) (e_var rfl)) e_c)) (decide_eq_false (by intro q; injection q with q; exact absurd q (by decide +kernel)))) (fun q => nomatch q)
        (fun _ => e_ixT (R := fun n : Nat => sNat n) (i := b) (at0_some (by rw [hx.len]; exact hb)) (e_var rfl) (e_ix2b (s := sStr "copy") (t := sNat b) (e_var rfl)))) (e_var rfl) (e_var rfl) fun w3 l3 ow3 o3 => fin w3 l3 ow3 o3
  rw [List.take_length] at ow
  exact s_ret o2 (e_tupOw ow (e_var rfl)) fun v w3 l3 pv => k v w3 (ow.le.trans l3) pv
/-! ### disks -/
theorem picks_len (m : Nat) (d : List Nat) : (picksF m d).length ≤ 16 := by
  unfold picksF
  rw [List.length_map]
  exact Nat.le_trans (List.length_filter_le _ _) (by rw [List.length_range]; exact Nat.le_refl _)
theorem disks_step {s : List Nat} {i m : Nat} (h : s[i]? = some m) : disksF (s.take (i + 1)) = (disksF (s.take i)).flatMap (picksF m) := by
  unfold disksF
  rw [List.take_add_one, h, List.foldl_append]
  rfl
theorem flat_le {α β : Type} {n : Nat} {f : α → List β} : ∀ (l : List α), (∀ x ∈ l, (f x).length ≤ n) → (l.flatMap f).length ≤ l.length * n
  | [], _ => Nat.zero_le _
  | x :: r, h => by
    rw [List.flatMap_cons, List.length_append, List.length_cons, Nat.add_mul, Nat.one_mul]
    have h1 := h x List.mem_cons_self
    have h2 := flat_le r fun y hy => h y (List.mem_cons_of_mem _ hy)
    omega
theorem disks_len {s : List Nat} : ∀ i, i ≤ s.length → (disksF (s.take i)).length ≤ 16 ^ i
  | 0, _ => by simp [disksF]
  | i + 1, hi => by
    rw [disks_step (List.getElem?_eq_getElem (show i < s.length by omega)), Nat.pow_succ]
    exact Nat.le_trans (flat_le _ fun x _ => picks_len _ x) (Nat.mul_le_mul_right _ (disks_len i (by omega)))
theorem disks_dlen {s : List Nat} : ∀ i, i ≤ s.length → ∀ d ∈ disksF (s.take i), d.length = i
  | 0, _, d, h => by
    have h : d ∈ [[]] := h
    rw [List.mem_singleton.mp h]
    rfl
  | i + 1, hi, d, h => by
    rw [disks_step (List.getElem?_eq_getElem (show i < s.length by omega))] at h
    obtain ⟨d0, h0, h1⟩ := List.mem_flatMap.mp h
    unfold picksF at h1
    obtain ⟨v, _, rfl⟩ := List.mem_map.mp h1
    rw [List.length_append, disks_dlen i (by omega) d0 h0]
    rfl
abbrev spLDisks : Sp := spP (fun s : List Nat => s.length ≤ 4) (fun s => [sNs s]) (fun s => sPiece (disksF s))
theorem ok__law_disks (T : Txt K mg) : Ok__law_disks P w K mg base spLDisks := by
  refine okP T.f__law_disks sc__law_disks (fun _ => rfl) fun cdv A outer s H E hr => ⟨_, (pss_cons (ps_set (i := 1) sc__law_disks.nd rfl (Or.inl rfl) (pe_lst (pa_cons (pe_tup pa_nil) pa_nil))) (pss_cons (ps_for PassesOwn.never rfl (pi_tup (pv 0)) (pg_name (i := 2) sc__law_disks.nd rfl (Or.inl rfl)) (pss_cons (ps_set (i := 3) sc__law_disks.nd rfl (Or.inl rfl) (pe_lst pa_nil)) (pss_cons (ps_for PassesOwn.never rfl (pi_list (pv 1)) (pg_name (i := 4) sc__law_disks.nd rfl (Or.inl rfl)) (pss_one (ps_for PassesOwn.never rfl (pi_range1 rfl T.n_range (pa_cons pe_int pa_nil)) (pg_name (i := 5) sc__law_disks.nd rfl (Or.inl rfl)) (pss_one (ps_if (pt_cmpR op_eq (pe_op op_and (pe_op op_shr (pv 2) (pv 5)) pe_int) pe_int (nomark _)) (pss_one (ps_expr (pe_bm PySem.F.plainAttrs_list PySem.F.slot_list_append PySem.F.type_list_append mt_append (pv 3) (pa_cons (pe_op op_catA (pv 4) (pe_tup (pa_cons (pv 5) pa_nil))) pa_nil)))) pss_nil))))) (pss_one (ps_set (i := 1) sc__law_disks.nd rfl (Or.inl rfl) (pv 3)))))) (pss_one (ps_ret (pv 1))))), ?_⟩
  rintro sk w0 σ Q hl o k
  have hl : sk.length ≤ 4 := hl
  have o : EnvOk w0.G σ [some (sNs sk), none, none, none, none, none] := o
  have k : ∀ v w2, Le w0 w2 → (sPiece (disksF sk)).P w2.G v → Q v w2.H := k
  refine q_set (s := sPiece (disksF (sk.take 0))) o (el_one (R := sNs) (x := []) (e_tup0 (R := fun n : Nat => sNat n))).e fun σ1 w1 l1 o1 => ?_
  refine q_for o1 (i_tup (R := fun n : Nat => sNat n) (xs := sk) (e_var rfl)) (fun _ => b_name) (fun i => [some (sNs sk), some (sPiece (disksF (sk.take i))), none, none, none, none]) (fun _ w2 => Le w0 w2)
    (fun _ _ _ h l => h.trans l) (fun w2 l2 o2 => ⟨o2, l1.trans l2⟩) (fun i m σ2 w2 hm o2 l2 N hN => ?_) (fun σ2 w2 o2 l2 => ?_)
  · have hi : i < sk.length := (List.getElem?_eq_some_iff.mp hm).1
    have hds := disks_len (s := sk) i (by omega)
    have hp4 : 16 ^ i ≤ 16 ^ 3 := Nat.pow_le_pow_right (by decide) (by omega)
    have hdl := disks_dlen (s := sk) i (by omega)
    rw [disks_step hm] at hN
    generalize disksF (sk.take i) = ds at *
    refine q_setL (R := sNs) (xs := []) (w0 := w0) l2 o2 el_nil fun l σ3 w3 l3 ow3 o3 n3 => ?_
    have o3 : EnvOk w3.G σ3 [some (sNs sk), some (sPiece ds), some (sNat m), some (sRef l), none, none] := o3
    refine q_for o3 (i_list (R := sNs) (xs := ds) (e_var rfl)) (fun _ => b_name) (fun _ => [some (sNs sk), some (sPiece ds), some (sNat m), some (sRef l), none, none]) (fun j u => Gx w2 u ∧ Own w0 l sNs ((ds.take j).flatMap (picksF m)) u)
      (fun _ _ _ h l => ⟨fun a o q => l.g a o (h.1 a o q), h.2.up l⟩) (fun u lu ou => ⟨ou, fun a o q => lu.g a o (l3.g a o q), ow3.up lu⟩) (fun j d σ4 u hd o4 h4 N4 hN4 => ?_) (fun σ4 u o4 h4 => ?_)
    · have hjl : j < ds.length := (List.getElem?_eq_some_iff.mp hd).1
      have hdd := hdl d (List.mem_of_getElem? hd)
      have hfl : ((ds.take j).flatMap (picksF m)).length ≤ ds.length * 16 := by
        refine Nat.le_trans (flat_le _ fun x _ => picks_len m x) (Nat.mul_le_mul_right _ ?_)
        rw [List.length_take]
        omega
      have o4 : EnvOk u.G σ4 [some (sNs sk), some (sPiece ds), some (sNat m), some (sRef l), some (sNs d), none] := o4
      refine s_for o4 (i_range1 (n := 16) (by decide) (e_n 16 16)) (fun _ => b_name) (fun _ => [some (sNs sk), some (sPiece ds), some (sNat m), some (sRef l), some (sNs d), none])
        (fun v u2 => Gx w2 u2 ∧ Gx u u2 ∧ Own w0 l sNs ((ds.take j).flatMap (picksF m) ++ (((List.range 16).take v).filter fun x => m.testBit x).map fun x => d ++ [x]) u2) (fun _ _ _ h l => ⟨fun a o q => l.g a o (h.1 a o q), fun a o q => l.g a o (h.2.1 a o q), h.2.2.up l⟩)
        (fun u2 lu ou => ⟨ou, fun a o q => lu.g a o (h4.1 a o q), lu.g, by rw [show (((List.range 16).take 0).filter fun x => m.testBit x).map (fun x => d ++ [x]) = [] from rfl, List.append_nil]; exact h4.2.up lu⟩) (fun v x σ5 u2 hv o5 h5 N5 hN5 => ?_) (fun σ5 u2 o5 h5 => ?_)
      · obtain ⟨ex, hv16⟩ := range_at hv
        subst ex
        have o5 : EnvOk u2.G σ5 [some (sNs sk), some (sPiece ds), some (sNat m), some (sRef l), some (sNs d), some (sNat x)] := o5
        have etk : (List.range 16).take (x + 1) = (List.range 16).take x ++ [x] := by rw [List.take_add_one, hv]; rfl
        have hsz : ((ds.take j).flatMap (picksF m) ++ (((List.range 16).take x).filter fun x => m.testBit x).map fun x => d ++ [x]).length ≤ 1000000 := by
          rw [List.length_append, List.length_map]
          have := List.length_filter_le (fun x => m.testBit x) ((List.range 16).take x)
          rw [List.length_take, List.length_range] at this
          omega
        refine s_if o5 (t_bit1 (a := m) (b := x) (e_var rfl) (e_var rfl)) (fun q u3 l5 o6 => ?_) (fun q u3 l5 o6 => ?_)
        · refine s_app (x := d ++ [x]) o6 (h5.2.2.up l5) hsz (e_var rfl) (e_catA (R := fun n : Nat => sNat n) (xs := d) (ys := [x]) (by show d.length + 1 ≤ _; omega) (e_var rfl) (e_tup1 (R := fun n : Nat => sNat n) (x := x) (e_var rfl))) fun u4 l6 ow6 o7 => ?_
          refine hN5 σ5 u4 _ o7 (fun o => o.drop 5) ⟨fun a o q => l6.g a o (l5.g a o (h5.1 a o q)), fun a o q => l6.g a o (l5.g a o (h5.2.1 a o q)), ?_⟩ (fun a o q => l6.g a o (l5.g a o q))
          rw [etk, List.filter_append, List.map_append, List.filter_cons, if_pos q, ← List.append_assoc]
          exact ow6
        · refine hN5 σ5 u3 _ o6 (fun o => o.drop 5) ⟨fun a o q => l5.g a o (h5.1 a o q), fun a o q => l5.g a o (h5.2.1 a o q), ?_⟩ l5.g
          rw [etk, List.filter_append, List.map_append, List.filter_cons, if_neg (by rw [q]; decide)]
          show Own w0 l sNs (_ ++ (_ ++ [])) u3
          rw [List.append_nil]
          exact h5.2.2.up l5
      · have hlen16 : (List.range 16).take (List.range 16).length = List.range 16 := List.take_length
        rw [hlen16] at h5
        refine hN4 σ5 u2 _ o5 (fun o => o.drop 4) ⟨h5.1, ?_⟩ h5.2.1
        have etk2 : ds.take (j + 1) = ds.take j ++ [d] := by rw [List.take_add_one, hd]; rfl
        rw [etk2, List.flatMap_append]
        have e2 : [d].flatMap (picksF m) = picksF m d := by simp
        rw [e2]
        exact h5.2.2
    · rw [List.take_length] at h4
      obtain ⟨u2, e2, l5, g5, o5⟩ := Own.stable (i := 3) h4.2 o4 rfl
      rw [← e2]
      refine s_set o5 (e_var (s := sPiece (ds.flatMap (picksF m))) rfl) fun σ6 u3 l6 o6 => ?_
      refine hN σ6 u3 _ o6 (fun o => (o.drop 2).drop 3) (l5.trans l6) fun a o q => l6.g a o (g5 a o (h4.1 a o q))
  · rw [List.take_length] at o2
    exact s_ret o2 (e_var (s := sPiece (disksF sk)) rfl) fun v w3 l3 pv => k v w3 (l2.trans l3) pv
end
end R40

set_option Elab.async false
set_option linter.all false
set_option maxRecDepth 100000
set_option maxHeartbeats 1000000
/-! Dicts whose keys are disks; walk: the law's steps. -/
namespace R40
open PySem PySem.Spec PyProof.Rows L2 M40
/-- for k in d: d stays locked from here on -/
def iKeysL (td : TE) : TI := fun σ H R => td σ H fun x H1 => ∃ d kvs, x = .ref d ∧ H1 d = some (.dT kvs) ∧ ∀ o, R (Itkt d o kvs) (upd H1 d (.frz o (.dT kvs)))
theorem pi_keysL {X : Cx} {tg e : Expr} {td : TE} (he : PE X e td) : PI X tg e (iKeysL td) := by
  refine ⟨fun pins s σ H R I h => ?_⟩
  refine thn (he.run pins s σ H _ I h) fun u s1 ⟨x, H1, I1, rx, d, kvs, ex, hd0, q⟩ => ?_
  subst ex
  obtain rfl : u = Value.ref d := rx
  obtain ⟨od, I2⟩ := I1.lock hd0 True.intro
  obtain ⟨hs, hgd, hx, es, ep, hdt, hsz, ent⟩ := I2.frzT upd_same
  refine iter_keys hs hgd hx hdt (pi_one (tk := s1.toks) I2 _ (turn_keysT _ hdt) ⟨_, Heap.get?_push_size _ rfl, rfl, ?_⟩ (q od))
  rw [hsz] <;> rfl
/-- a disk as a key -/
def keyN (d : List Nat) : List Key := d.map fun n : Nat => (.inl (n : Int) : Key)
theorem key_v (d : List Nat) : (keyN d).map kV = d.map fun n : Nat => V.int (n : Int) := by
  unfold keyN
  rw [List.map_map]
  rfl
theorem key_inj {a b : List Nat} (h : keyN a = keyN b) : a = b := by
  unfold keyN at h
  induction a generalizing b with
  | nil =>
    cases b with
    | nil => rfl
    | cons y s => cases h
  | cons x r ih =>
    cases b with
    | nil => cases h
    | cons y s =>
      rw [List.map_cons, List.map_cons] at h
      obtain ⟨h1, h2⟩ := List.cons.inj h
      have h3 : (x : Int) = (y : Int) := Sum.inl.inj h1
      rw [ih h2, show x = y by omega]
/-- the dict at d: its keys, all its values of a kind -/
structure DictAt (VP : V → Prop) (d : Addr) (ks : List (List Nat)) (w : Wd) : Prop where
  g : w.G d = none
  at_ : ∃ kvs : List (List Key × V), w.H d = some (.dT kvs) ∧ kvs.map (·.1) = ks.map keyN ∧ ∀ p ∈ kvs, VP p.2
theorem DictAt.upB {VP : V → Prop} {d : Addr} {ks : List (List Nat)} {w1 w2 : Wd} {B : List Addr} (h : DictAt VP d ks w1) (l : LeB B w1 w2) (hB : d ∉ B) : DictAt VP d ks w2 := by
  obtain ⟨kvs, a, r⟩ := h.at_
  exact ⟨l.own d _ hB a h.g, kvs, l.h d _ hB a, r⟩
theorem DictAt.up {VP : V → Prop} {d : Addr} {ks : List (List Nat)} {w1 w2 : Wd} (h : DictAt VP d ks w1) (l : Le w1 w2) : DictAt VP d ks w2 := h.upB l List.not_mem_nil
theorem val_in {kvs : List (List Key × V)} {ks : List (List Nat)} (h : kvs.map (·.1) = ks.map keyN) (x : List Nat) : (valV kvs (keyN x)).isSome = decide (x ∈ ks) := by
  rw [← valV_any, Bool.eq_iff_iff, List.any_eq_true, decide_eq_true_eq]
  constructor
  · rintro ⟨p, hp, e⟩
    have e := of_decide_eq_true e
    have hm : p.1 ∈ kvs.map (·.1) := List.mem_map.mpr ⟨p, hp, rfl⟩
    rw [h, e] at hm
    obtain ⟨y, hy, ey⟩ := List.mem_map.mp hm
    rw [← key_inj ey]
    exact hy
  · intro hx
    have hm : keyN x ∈ kvs.map (·.1) := by rw [h]; exact List.mem_map.mpr ⟨x, hx, rfl⟩
    obtain ⟨p, hp, e⟩ := List.mem_map.mp hm
    exact ⟨p, hp, decide_eq_true e⟩
theorem val_mem {kvs : List (List Key × V)} {k : List Key} {v : V} (h : valV kvs k = some v) : ∃ p ∈ kvs, p.2 = v := by
  unfold valV at h
  obtain ⟨p, hp, e⟩ := Option.map_eq_some_iff.mp h
  exact ⟨p, List.mem_of_find?_eq_some hp, e⟩
section
variable {Γ : Env} {w : Wd} {s t u : Slot} {te ta tb td : TE} {K : PySem.W.Frag} {D : Ends} {σ : L2.St} {ts tz : TS} {VP : V → Prop} {d : Addr} {ks : List (List Nat)} {x : List Nat}
theorem ns_at {G : Hp} {v : V} (h : (sNs x).P G v) : ∃ b, v = .ref b ∧ G b = some (.tup ((keyN x).map kV)) := by
  obtain ⟨b, vs, rfl, hb, r⟩ := h
  rw [key_v, ← r.sV_eq]
  exact ⟨b, rfl, hb⟩
theorem e_dnotin (da : DictAt VP d ks w) (hy : E ta Γ w (sNs x)) (hd : E td Γ w (sRef d)) : E (tDNotIn ta td) Γ w (sBl (!decide (x ∈ ks))) := fun σ w1 l o Q q =>
  hy σ w1 l o _ fun y w2 l2 py => hd σ w2 (l.trans l2) (o.up l2) _ fun v w3 l3 pv => by
    cases pv
    obtain ⟨kvs, a, r, _⟩ := (da.up (l.trans (l2.trans l3))).at_
    obtain ⟨b, rfl, hb⟩ := ns_at (Slot.up l3 py)
    refine ⟨d, _, rfl, DGet.t a (w3.sub _ _ hb), ?_⟩
    rw [val_in r]
    exact q _ w3 (l2.trans l3) rfl
theorem e_dget (da : DictAt VP d ks w) (hx : x ∈ ks) (hd : E td Γ w (sRef d)) (hy : E ta Γ w (sNs x)) : E (tDGet td ta) Γ w ⟨fun _ v => VP v, fun _ h => h⟩ := fun σ w1 l o Q q =>
  hd σ w1 l o _ fun v w2 l2 pv => hy σ w2 (l.trans l2) (o.up l2) _ fun y w3 l3 py => by
    cases pv
    obtain ⟨kvs, a, r, vp⟩ := (da.up (l.trans (l2.trans l3))).at_
    obtain ⟨b, rfl, hb⟩ := ns_at py
    have hs := val_in r x
    rw [decide_eq_true hx] at hs
    obtain ⟨z, hz⟩ := Option.isSome_iff_exists.mp hs
    refine ⟨d, z, rfl, by rw [← hz]; exact DGet.t a (w3.sub _ _ hb), q z w3 (l2.trans l3) ?_⟩
    obtain ⟨p, hp, e⟩ := val_mem hz
    rw [← e]
    exact vp p hp
theorem s_dput (o : EnvOk w.G σ Γ) (da : DictAt VP d ks w) (hz : ks.length ≤ 1000000) (hx : x ∉ ks) (hv : ∀ Q : VK, (∀ v w2, Le w w2 → VP v → Q v w2.H) → te σ w.H Q) (hd : E td Γ w (sRef d)) (hy : E ta Γ w (sNs x))
    (k : ∀ w2 : Wd, LeB [d] w w2 → DictAt VP d (ks ++ [x]) w2 → EnvOk w2.G σ Γ → D.nx σ w2.H) : sDPut td ta te D σ w.H :=
  hv _ fun v w1 l1 pv => hd σ w1 l1 (o.up l1) _ fun z w2 l2 pz => hy σ w2 (l1.trans l2) ((o.up l1).up l2) _ fun y w3 l3 py => by
    cases pz
    have da3 := da.up (l1.trans (l2.trans l3))
    obtain ⟨kvs, a, r, vp⟩ := da3.at_
    obtain ⟨b, rfl, hb⟩ := ns_at py
    have hl : kvs.length = ks.length := by
      have := congrArg List.length r
      rw [List.length_map, List.length_map] at this
      exact this
    have hn : valV kvs (keyN x) = none := by
      have hs := val_in r x
      rw [decide_eq_false hx] at hs
      cases e : valV kvs (keyN x) with
      | none => rfl
      | some z => rw [e] at hs; cases hs
    refine ⟨d, _, rfl, DPut.t a (w3.sub _ _ hb) (Nat.lt_of_le_of_lt (by rw [hl]; exact hz) (by decide)), ?_⟩
    rw [putK_new v hn]
    have lb : LeB [d] w3 (w3.put d (.dT (kvs ++ [(keyN x, v)])) da3.g) := Wd.leB_put (List.mem_singleton.mpr rfl)
    refine k (w3.put d (.dT (kvs ++ [(keyN x, v)])) da3.g) ((LeB.up (l1.trans (l2.trans l3))).trans lb) ⟨da3.g, _, upd_same, ?_, fun p hp => ?_⟩ (((o.up l1).up (l2.trans l3)).up lb)
    · rw [List.map_append, List.map_append, r]
      rfl
    · rcases List.mem_append.mp hp with hp | hp
      · exact vp p hp
      · rw [List.mem_singleton.mp hp]
        exact pv
/-- {} -/
theorem q_dnew {i : Nat} (o : EnvOk w.G σ Γ) (k : ∀ (d : Addr) (σ' : L2.St) (w2 : Wd), Le w w2 → w.H d = none → DictAt VP d [] w2 → EnvOk w2.G σ' (Γ.set i (some (sRef d))) → tz D σ' w2.H) : tSeq (tAsg tDNewT (gName i)) tz D σ w.H := fun p np =>
  k p _ (w.put p (.dT []) (w.gfree np)) (Wd.le_put np) np ⟨w.gfree np, [], upd_same, rfl, fun p h => (nomatch h)⟩ ((o.up (Wd.le_put np)).set rfl)
/-- what gives a new dict -/
def ED (te : TE) (Γ : Env) (w : Wd) (ks : List (List Nat)) : Prop := ∀ (σ : L2.St) (w1 : Wd), Le w w1 → EnvOk w1.G σ Γ → ∀ Q : VK, (∀ p w2, Le w1 w2 → w1.H p = none → DictAt VP p ks w2 → Q (.ref p) w2.H) → te σ w1.H Q
theorem i_keysL (h : ED (VP := VP) td Γ w ks) : I (iKeysL td) Γ w ks sNs := fun σ w1 l o C c => h σ w1 l o _ fun p w2 l2 n1 da => by
  obtain ⟨kvs, a, r, _⟩ := da.at_
  have hl : kvs.length = ks.length := by
    have := congrArg List.length r
    rw [List.length_map, List.length_map] at this
    exact this
  refine ⟨p, kvs, rfl, a, fun od => ?_⟩
  refine c (Itkt p od kvs) ((w2.put p (.frz od (.dT kvs)) da.g).frz p (.frz od (.dT kvs)) upd_same) ?_ ⟨fun i w3 hi g => ?_, fun w3 g => ?_, fun i w3 v H' x hx g y => ?_⟩
  · exact Le.frz (Le.put l2 n1) da.g n1
  · exact ⟨w3.sub _ _ (g p _ upd_same), by rw [hl]; exact hi⟩
  · exact ⟨w3.sub _ _ (g p _ upd_same), by rw [hl]; exact Nat.le_refl _⟩
  · obtain ⟨rfl, k, v', q, e1, rfl, e3⟩ := y
    have e4 : (kvs.map (·.1))[i]? = some k := by rw [List.getElem?_map, e1]; rfl
    rw [r, List.getElem?_map, hx] at e4
    have e5 : keyN x = k := Option.some.inj e4
    rw [← e5, key_v] at e3
    exact ⟨w3, rfl, .refl, q, _, rfl, w3.tup _ _ e3, AllR.of_map (f := fun n : Nat => V.int (n : Int))⟩
end
end R40

set_option Elab.async false
set_option linter.all false
set_option maxRecDepth 100000
set_option maxHeartbeats 1000000
/-! Walks: the law's steps, whether it is missing. -/
namespace R40
open PySem PySem.Spec PyProof.Rows L2 M40
section
variable {P : Program} {w : World} {K : PySem.W.Frag} {mg : Str → Option Value} {base : Heap}
def isI (v : V) : Prop := ∃ i : Int, v = .int i
def isB (v : V) : Prop := ∃ b : Bool, v = .bl b
def sOf (p : V → Prop) : Slot := ⟨fun _ v => p v, fun _ h => h⟩
theorem e_plus1 {Γ : Env} {w : Wd} {ta : TE} (ha : E ta Γ w (sOf isI)) : E (tOp rPlus ta (tC (.int 1))) Γ w (sOf isI) := fun σ w1 l o Q q =>
  ha σ w1 l o _ fun v w2 l2 ⟨i, e⟩ => ⟨i, 1, e, rfl, q _ w2 l2 ⟨i + 1, rfl⟩⟩
def spLSteps (K : PySem.W.Frag) : Sp := fun vs H Q _ => ∃ (m : Mach) (piece : List (List Nat)) (w : Wd), w.H = H ∧ OkM m ∧ Args w.G vs [sDeeds m.deeds, sNs m.first, sPiece piece] ∧
  ∀ d w2, Le w w2 → w.H d = none → DictAt isI d (stepsF m.deeds m.first piece) w2 → Q (.ref d) w2.H
theorem sz3 {m : Mach} (hm : OkM m) : ∀ i, i < m.sizes.length → at0 m.sizes i ≤ 3 := fun i hi => (hm.size i hi).2
theorem deeds_take {deeds : List Deed} {piece ks : List (List Nat)} {d : List Nat} {j : Nat} {e : Deed} (h : deeds[j]? = some e) : (deeds.take (j + 1)).foldl (growF piece d) ks = growF piece d ((deeds.take j).foldl (growF piece d) ks) e := by
  rw [List.take_add_one, h, List.foldl_append]
  rfl
theorem ok__law_steps (T : Txt K mg) : Ok__law_steps P w K mg base (spLSteps K) := by
  refine okF T.f__law_steps sc__law_steps (fun vs H Q E h => ?_) fun cdv A outer s H E hr => ⟨_, (pss_cons (ps_set (i := 3) sc__law_steps.nd rfl (Or.inl rfl) pe_dnewT) (pss_cons (ps_set (i := 4) sc__law_steps.nd rfl (Or.inl rfl) (pe_lst pa_nil)) (pss_cons (ps_for PassesOwn.never rfl (pi_list (pe_call (ok__law_disks T) (hr.mono (by decide)) rfl T.g__law_disks T.f__law_disks.kp T.b__law_disks .nil pass0 (pa_cons (pv 1) pa_nil))) (pg_name (i := 5) sc__law_steps.nd rfl (Or.inl rfl)) (pss_one (ps_if (pt_not (pt_val (pe_call (ok__law_has T) (hr.mono (by decide)) rfl T.g__law_has T.f__law_has.kp T.b__law_has .nil pass0 (pa_cons (pv 2) (pa_cons (pv 5) pa_nil))))) (pss_cons (ps_dput (hu_of hr) (pv 3) (pv 5) pe_int rfl) (pss_one (ps_expr (pe_bm PySem.F.plainAttrs_list PySem.F.slot_list_append PySem.F.type_list_append mt_append (pv 4) (pa_cons (pv 5) pa_nil))))) pss_nil))) (pss_cons (ps_for PassesOwn.never rfl (pi_range1 rfl T.n_range (pa_cons pe_int pa_nil)) (pg_name (i := 6) sc__law_steps.nd rfl (Or.inl rfl)) (pss_one (ps_if (pt_cmpR op_lt (pv 6) (pe_callB call_len_seq (by rfl) T.n_len boot_len (pa_cons (pv 4) pa_nil)) (nomark _)) (pss_one (ps_for PassesOwn.never rfl (pi_range1 rfl T.n_range (pa_cons (pe_callB call_len_seq (by rfl) T.n_len boot_len (pa_cons (pv 0) pa_nil)) pa_nil)) (pg_name (i := 7) sc__law_steps.nd rfl (Or.inl rfl)) (pss_one (ps_if (pt_val (pe_call (ok__law_can T) (hr.mono (by decide)) rfl T.g__law_can T.f__law_can.kp T.b__law_can .nil pass0 (pa_cons (pv 0) (pa_cons (pe_ix ix_list (pv 4) (pv 6) (fun _ _ => rfl)) (pa_cons (pv 7) pa_nil))))) (pss_cons (ps_set (i := 8) sc__law_steps.nd rfl (Or.inl rfl) (pe_call (ok__law_after T) (hr.mono (by decide)) rfl T.g__law_after T.f__law_after.kp T.b__law_after .nil pass0 (pa_cons (pv 0) (pa_cons (pe_ix ix_list (pv 4) (pv 6) (fun _ _ => rfl)) (pa_cons (pv 7) pa_nil))))) (pss_one (ps_if (PW.pt (pw_and (pt_cmp (pc_dnotin (hu_of hr) (pv 8) (pv 3))) (pw_and1 (pt_not (pt_val (pe_call (ok__law_has T) (hr.mono (by decide)) rfl T.g__law_has T.f__law_has.kp T.b__law_has .nil pass0 (pa_cons (pv 2) (pa_cons (pv 8) pa_nil)))))))) (pss_cons (ps_dput (hu_of hr) (pv 3) (pv 8) (pe_op op_add (pe_dget (hu_of hr) (pv 3) (pe_ix ix_list (pv 4) (pv 6) (fun _ _ => rfl)) (fun _ _ => rfl)) pe_int) rfl) (pss_one (ps_expr (pe_bm PySem.F.plainAttrs_list PySem.F.slot_list_append PySem.F.type_list_append mt_append (pv 4) (pa_cons (pv 8) pa_nil))))) pss_nil))) pss_nil)))) pss_nil))) (pss_one (ps_ret (pv 3))))))), ?_⟩
  · obtain ⟨m, piece, w, _, _, a, _⟩ := h
    rw [a.len]
    rfl
  rintro vs H Q ⟨m, piece, w0, rfl, hm, a, k⟩
  have hfew := hm.few
  have hdl := hm.deeds
  have o : EnvOk w0.G (L2.start N__law_steps vs) [some (sDeeds m.deeds), some (sNs m.first), some (sPiece piece), none, none, none, none, none, none] := args_start (ss := [sDeeds m.deeds, sNs m.first, sPiece piece]) a
  refine q_dnew (VP := isI) o fun d σ1 w1 l1 nd da1 o1 => ?_
  refine q_setL (R := sNs) (xs := []) (w0 := w0) l1 o1 el_nil fun lo σ2 w2 l2 ow2 o2 n2 => ?_
  have da2 := da1.up l2
  have ne : d ≠ lo := fun e => by
    obtain ⟨_, q, _⟩ := da1.at_
    rw [e, n2] at q
    cases q
  have nlo : w0.H lo = none := ow2.fr
  have ni : ∀ {a c : Addr}, a ≠ c → a ∉ [c] := fun h m => h (List.mem_singleton.mp m)
  have fd : ∀ b ∈ [d], w0.H b = none := fun b hb => by rw [List.mem_singleton.mp hb]; exact nd
  have o2 : EnvOk w2.G σ2 [some (sDeeds m.deeds), some (sNs m.first), some (sPiece piece), some (sRef d), some (sRef lo), none, none, none, none] := o2
  have hst := start_ok (p := fun d => !hasF piece d) (sz3 hm) hm.first
  have lfirst : m.first.length ≤ 4 := by rw [hm.first.1]; exact hm.few
  have hdz : ∀ i, (((disksF m.first).take i).filter fun d => !hasF piece d).length ≤ 1000000 := fun i => by
    have h1 := (start_ok (p := fun _ => true) (sz3 hm) hm.first).few hm
    rw [List.filter_eq_self.mpr (fun _ _ => rfl)] at h1
    have h2 := List.length_filter_le (fun d => !hasF piece d) ((disksF m.first).take i)
    rw [List.length_take] at h2
    omega
  refine q_for o2 (i_list (R := sNs) (xs := disksF m.first) (e_call m.first lfirst (ea_cons (e_var rfl) ea_nil))) (fun _ => b_name) (fun _ => [some (sDeeds m.deeds), some (sNs m.first), some (sPiece piece), some (sRef d), some (sRef lo), none, none, none, none])
    (fun i u => Own w0 lo sNs (((disksF m.first).take i).filter fun d => !hasF piece d) u ∧ DictAt isI d (((disksF m.first).take i).filter fun d => !hasF piece d) u) (fun _ _ _ h l => ⟨h.1.up l, h.2.up l⟩) (fun u lu ou => ⟨ou, ow2.up lu, da2.up lu⟩) (fun i x σ3 u hx o3 h N hN => ?_) (fun σ3 u o3 h => ?_)
  · obtain ⟨ow, da⟩ := h
    have etk : (disksF m.first).take (i + 1) = (disksF m.first).take i ++ [x] := by rw [List.take_add_one, hx]; rfl
    have hnx : x ∉ ((disksF m.first).take i).filter fun d => !hasF piece d := fun hm' => by
      obtain ⟨j, hj⟩ := List.mem_iff_getElem?.mp (List.mem_filter.mp hm').1
      rw [List.getElem?_take] at hj
      split at hj
      · rename_i hlt
        obtain ⟨h1, e1⟩ := List.getElem?_eq_some_iff.mp hj
        obtain ⟨h2, e2⟩ := List.getElem?_eq_some_iff.mp hx
        have := List.pairwise_iff_getElem.mp (disks_nd m.first) j i h1 h2 hlt
        exact this (e1.trans e2.symm)
      · cases hj
    have hz := hdz i
    refine s_if o3 (t_not (t_B (e_call (piece, x) trivial (ea_cons (e_var rfl) (ea_cons (e_var rfl) ea_nil))))) (fun q u1 l3 o4 => ?_) (fun q u1 l3 o4 => ?_)
    · refine seq (s_dput (VP := isI) (x := x) o4 (da.up l3) hz hnx (fun Q' q' => q' _ u1 .refl ⟨0, rfl⟩) (e_var rfl) (e_var (s := sNs x) rfl) fun u2 l4 da4 o5 => ?_)
      refine s_app (x := x) o5 ((ow.up l3).upB l4 fd (ni (Ne.symm ne))) hz (e_var rfl) (e_var (s := sNs x) rfl) fun u3 l5 ow5 o6 => ?_
      refine hN σ3 u3 _ o6 (fun o => o.drop 5) ⟨?_, ?_⟩ fun a o q => l5.g a o (l4.g a o (l3.g a o q))
      · rw [etk, List.filter_append, List.filter_cons, if_pos q]
        exact ow5
      · rw [etk, List.filter_append, List.filter_cons, if_pos q]
        exact da4.upB l5 (ni ne)
    · refine hN σ3 u1 _ o4 (fun o => o.drop 5) ⟨?_, ?_⟩ l3.g
      · rw [etk, List.filter_append, List.filter_cons, if_neg (by rw [q]; decide)]
        show Own w0 lo sNs (_ ++ []) u1
        rw [List.append_nil]
        exact ow.up l3
      · rw [etk, List.filter_append, List.filter_cons, if_neg (by rw [q]; decide)]
        show DictAt isI d (_ ++ []) u1
        rw [List.append_nil]
        exact da.up l3
  rw [List.take_length] at h
  generalize hS : (disksF m.first).filter (fun d => !hasF piece d) = start at *
  refine q_for o3 (i_range1 (n := 5000) (by decide) (e_n 5000 5000)) (fun _ => b_name) (fun _ => [some (sDeeds m.deeds), some (sNs m.first), some (sPiece piece), some (sRef d), some (sRef lo), none, none, none, none])
    (fun i u2 => Own w0 lo sNs (bfsF m.deeds piece start i) u2 ∧ DictAt isI d (bfsF m.deeds piece start i) u2) (fun _ _ _ h l => ⟨h.1.up l, h.2.up l⟩) (fun u2 lu ou => ⟨ou, h.1.up lu, h.2.up lu⟩) (fun i k2 σ4 u2 hk o4 h4 N hN => ?_) (fun σ4 u2 o4 h4 => ?_)
  · obtain ⟨ow, da⟩ := h4
    obtain ⟨ek, hi⟩ := range_at hk
    subst ek
    have kok := bfs_ok (piece := piece) hm.deed hst k2
    rw [bfs_succ] at hN
    generalize bfsF m.deeds piece start k2 = ks at *
    have o4 : EnvOk u2.G σ4 [some (sDeeds m.deeds), some (sNs m.first), some (sPiece piece), some (sRef d), some (sRef lo), none, some (sNat k2), none, none] := o4
    refine s_if o4 (t_ltN (e_var rfl) (e_lenOw ow (e_var rfl))) (fun q u3 l3 o5 => ?_) (fun q u3 l3 o5 => ?_)
    · have hlt : k2 < ks.length := of_decide_eq_true q
      obtain ⟨x, hx⟩ : ∃ x, ks[k2]? = some x := ⟨_, List.getElem?_eq_getElem hlt⟩
      have okx := kok.ok x (List.mem_of_getElem? hx)
      have et : turnF m.deeds piece ks k2 = m.deeds.foldl (growF piece x) ks := by unfold turnF; rw [hx]
      rw [et] at hN
      refine s_for o5 (i_range1 (n := m.deeds.length) (by omega) (e_lenL (R := sDeed) (e_var rfl))) (fun _ => b_name) (fun _ => [some (sDeeds m.deeds), some (sNs m.first), some (sPiece piece), some (sRef d), some (sRef lo), none, some (sNat k2), none, none])
        (fun j u4 => Gx u2 u4 ∧ Own w0 lo sNs ((m.deeds.take j).foldl (growF piece x) ks) u4 ∧ DictAt isI d ((m.deeds.take j).foldl (growF piece x) ks) u4) (fun _ _ _ h l => ⟨fun a o q => l.g a o (h.1 a o q), h.2.1.up l, h.2.2.up l⟩) (fun u4 lu ou => ⟨ou, fun a o q => lu.g a o (l3.g a o q), ow.up (l3.trans lu), da.up (l3.trans lu)⟩) (fun j j2 σ5 u4 hj o6 h6 N2 hN2 => ?_) (fun σ5 u4 o6 h6 => ?_)
      · obtain ⟨g6, ow6, da6⟩ := h6
        obtain ⟨ej, hj⟩ := range_at hj
        subst ej
        obtain ⟨e, he⟩ : ∃ e, m.deeds[j2]? = some e := ⟨_, List.getElem?_eq_getElem hj⟩
        have oke := hm.deed e (List.mem_of_getElem? he)
        obtain ⟨r, er⟩ := grows_pre (d := x) (piece := piece) (m.deeds.take j2) ks
        have hx6 : ((m.deeds.take j2).foldl (growF piece x) ks)[k2]? = some x := by rw [er]; exact app_at hx
        have k6 := grows_ok (piece := piece) okx (m.deeds.take j2) ks (fun e he => hm.deed e (List.mem_of_mem_take he)) kok
        have few6 := k6.few hm
        rw [deeds_take he] at hN2
        generalize (m.deeds.take j2).foldl (growF piece x) ks = ks6 at *
        have at_ : AtOk ⟨m.sizes, m.deeds, x, j2, e⟩ := ⟨he, oke, okx.1⟩
        have o6 : EnvOk u4.G σ5 [some (sDeeds m.deeds), some (sNs m.first), some (sPiece piece), some (sRef d), some (sRef lo), none, some (sNat k2), some (sNat j2), none] := o6
        refine s_if o6 (t_B (e_call (⟨m.sizes, m.deeds, x, j2, e⟩ : AtDeed) at_ (ea_cons (e_var rfl) (ea_cons (e_ixOw (R := sNs) (i := k2) ow6 hx6 (e_var rfl) (e_var rfl)) (ea_cons (e_var rfl) ea_nil))))) (fun qc u5 l5 o7 => ?_) (fun qc u5 l5 o7 => ?_)
        · have qc : canF x e = true := qc
          refine q_set (s := sNs (afterF x e)) o7 (e_call (⟨m.sizes, m.deeds, x, j2, e⟩ : AtDeed) at_ (ea_cons (e_var rfl) (ea_cons (e_ixOw (R := sNs) (i := k2) (ow6.up l5) hx6 (e_var rfl) (e_var rfl)) (ea_cons (e_var rfl) ea_nil)))) fun σ6 u6 l6 o8 => ?_
          have ow7 := ow6.up (l5.trans l6)
          have da7 := da6.up (l5.trans l6)
          refine s_if o8 (t_and (t_B (e_dnotin da7 (e_var (s := sNs (afterF x e)) rfl) (e_var rfl))) fun _ => t_not (t_B (e_call (piece, afterF x e) trivial (ea_cons (e_var rfl) (ea_cons (e_var rfl) ea_nil))))) (fun qn u7 l7 o9 => ?_) (fun qn u7 l7 o9 => ?_)
          · rw [Bool.and_eq_true] at qn
            have hn : afterF x e ∉ ks6 := by simpa using qn.1
            have hh : hasF piece (afterF x e) = false := by simpa using qn.2
            have eg : growF piece x ks6 e = ks6 ++ [afterF x e] := by
              unfold growF
              rw [if_pos qc, if_pos ⟨hn, hh⟩]
            rw [eg] at hN2
            have dget : ∀ Q' : VK, (∀ v w2, Le u7 w2 → isI v → Q' v w2.H) → tOp rPlus (tDGet (tVar 3) (tOp (rIxL K) (tVar 4) (tVar 6))) (tC (.int 1)) σ6 u7.H Q' := fun Q' q' =>
              e_plus1 (e_dget (da7.up l7) (List.mem_of_getElem? hx6) (e_var rfl) (e_ixOw (R := sNs) (i := k2) (ow7.up l7) hx6 (e_var rfl) (e_var rfl))) σ6 u7 .refl o9 Q' fun v w2 l p => q' v w2 l p
            refine seq (s_dput (VP := isI) (x := afterF x e) o9 (da7.up l7) (by omega) hn dget (e_var rfl) (e_var (s := sNs (afterF x e)) rfl) fun u8 l8 da8 o10 => ?_)
            refine s_app (x := afterF x e) o10 ((ow7.up l7).upB l8 fd (ni (Ne.symm ne))) (by omega) (e_var rfl) (e_var (s := sNs (afterF x e)) rfl) fun u9 l9 ow9 o11 => ?_
            exact hN2 σ6 u9 _ o11 (fun o => (o.drop 7).drop 8) ⟨fun a o q => l9.g a o (l8.g a o (l7.g a o (l6.g a o (l5.g a o (g6 a o q))))), ow9, da8.upB l9 (ni ne)⟩ fun a o q => l9.g a o (l8.g a o (l7.g a o (l6.g a o (l5.g a o q))))
          · have eg : growF piece x ks6 e = ks6 := by
              unfold growF
              rw [if_pos qc]
              refine if_neg fun h => ?_
              rw [show (!decide (afterF x e ∈ ks6)) = true by simpa using h.1, Bool.true_and] at qn
              have qn : (!hasF piece (afterF x e)) = false := qn
              rw [h.2] at qn
              cases qn
            rw [eg] at hN2
            exact hN2 σ6 u7 _ o9 (fun o => (o.drop 7).drop 8) ⟨fun a o q => l7.g a o (l6.g a o (l5.g a o (g6 a o q))), ow7.up l7, da7.up l7⟩ fun a o q => l7.g a o (l6.g a o (l5.g a o q))
        · have qc : canF x e = false := qc
          have eg : growF piece x ks6 e = ks6 := by
            unfold growF
            exact if_neg (by rw [qc]; decide)
          rw [eg] at hN2
          exact hN2 σ5 u5 _ o7 (fun o => o.drop 7) ⟨fun a o q => l5.g a o (g6 a o q), ow6.up l5, da6.up l5⟩ l5.g
      · rw [List.length_range, List.take_length] at h6
        exact hN σ5 u4 _ o6 (fun o => o.drop 6) ⟨h6.2.1, h6.2.2⟩ h6.1
    · have hlt : ¬ k2 < ks.length := of_decide_eq_false q
      have et : turnF m.deeds piece ks k2 = ks := by
        unfold turnF
        rw [List.getElem?_eq_none (by omega)]
      rw [et] at hN
      exact hN σ4 u3 _ o5 (fun o => o.drop 6) ⟨ow.up l3, da.up l3⟩ l3.g
  · rw [List.length_range] at h4
    refine e_var (s := sRef d) (i := 3) rfl _ u2 .refl o4 _ fun v w3 l3 p => ?_
    cases p
    have e5 : bfsF m.deeds piece start 5000 = stepsF m.deeds m.first piece := by unfold stepsF; rw [hS]
    rw [e5] at h4
    exact k d w3 (h4.1.le.trans l3) nd (h4.2.up l3)
end
end R40

set_option Elab.async false
set_option linter.all false
set_option maxRecDepth 100000
set_option maxHeartbeats 1000000
/-! Walk: whether a history is missing. -/
namespace R40
open PySem PySem.Spec PyProof.Rows L2 M40
section
variable {P : Program} {w : World} {K : PySem.W.Frag} {mg : Str → Option Value} {base : Heap}
theorem ed_steps {Γ : Env} {w : Wd} {ta : TA} {m : Mach} {piece : List (List Nat)} {XX : XK} (hm : OkM m) (h : EA ta Γ w [sDeeds m.deeds, sNs m.first, sPiece piece]) : ED (VP := isI) (tCall (spLSteps K) [] XX ta) Γ w (stepsF m.deeds m.first piece) := fun σ w1 l o Q q =>
  h σ w1 l o _ fun vs w2 l2 a => ⟨m, piece, w2, rfl, hm, by rw [List.append_nil]; exact a, fun d w3 l3 n da => q d w3 (l2.trans l3) (Le.free l2 n) da⟩
abbrev spLMissing : Sp := spP (fun x : TellIn => OkM x.m) (fun x => [sDeeds x.m.deeds, sNs x.m.first, sNs x.earlier, sNs x.later, sPiece x.piece]) (fun x => sEx (fun b : Bool => b = true ↔ Missing x.m.deeds x.m.first x.earlier x.later x.piece) (fun b => sBl b))
theorem steps_ok {m : Mach} (hm : OkM m) (piece : List (List Nat)) : KsOk m.sizes (stepsF m.deeds m.first piece) := bfs_ok hm.deed (start_ok (sz3 hm) hm.first) 5000
theorem ok__law_is_missing (T : Txt K mg) : Ok__law_is_missing P w K mg base spLMissing := by
  refine okP T.f__law_is_missing sc__law_is_missing (fun _ => rfl) fun cdv A outer s H E hr => ⟨_, (pss_cons (ps_setLc (i := 5) (own := [("_law_disk", 7)]) (g := (gName 7)) (tt := (tAnd (tB (tCall _ [] E0 (tCons (tVar 2) (tCons (tVar 7) tNil)))) (tNot (tB (tCall _ [] E0 (tCons (tVar 4) (tCons (tVar 7) tNil))))))) (te := (tVar 7)) rfl sc__law_is_missing.nd rfl rfl (sw_true rfl rfl rfl (by decide +kernel)) (pi_keysL (pe_call (ok__law_steps T) (hr.mono (by decide)) rfl T.g__law_steps T.f__law_steps.kp T.b__law_steps .nil pass0 (pa_cons (pv 0) (pa_cons (pv 1) (pa_cons (pe_lst pa_nil) pa_nil))))) (blkOk_by (own := [("_law_disk", 7)]) (N := N__law_is_missing) (sc := defScope st__law_is_missing) (by decide +kernel)) (fun _ _ _ _ _ => (pg_name (i := 7) sc__law_is_missing.nd rfl (Or.inl rfl))) (fun _ _ _ _ _ => (pts_one (PW.pt (pw_and (pt_val (pe_call (ok__law_in T) (hr.mono (by decide)) rfl T.g__law_in T.f__law_in.kp T.b__law_in .nil pass0 (pa_cons (pv 2) (pa_cons (pv 7) pa_nil)))) (pw_and1 (pt_not (pt_val (pe_call (ok__law_has T) (hr.mono (by decide)) rfl T.g__law_has T.f__law_has.kp T.b__law_has .nil pass0 (pa_cons (pv 4) (pa_cons (pv 7) pa_nil)))))))))) (fun _ _ _ _ _ => (pv 7))) (pss_cons (ps_set (i := 6) sc__law_is_missing.nd rfl (Or.inl rfl) pe_dnewT) (pss_cons (ps_for PassesOwn.never rfl (pi_list (pv 5)) (pg_name (i := 7) sc__law_is_missing.nd rfl (Or.inl rfl)) (pss_one (ps_dput (hu_of hr) (pv 6) (pv 7) pe_bl rfl))) (pss_cons (ps_set (i := 8) sc__law_is_missing.nd rfl (Or.inl rfl) (pe_callTy call_list_of (by rfl) T.n_list (by decide +kernel) (pa_cons (pv 5) pa_nil))) (pss_cons (ps_for PassesOwn.never rfl (pi_range1 rfl T.n_range (pa_cons pe_int pa_nil)) (pg_name (i := 9) sc__law_is_missing.nd rfl (Or.inl rfl)) (pss_one (ps_if (pt_cmpR op_lt (pv 9) (pe_callB call_len_seq (by rfl) T.n_len boot_len (pa_cons (pv 8) pa_nil)) (nomark _)) (pss_cons (ps_if (pt_val (pe_call (ok__law_in T) (hr.mono (by decide)) rfl T.g__law_in T.f__law_in.kp T.b__law_in .nil pass0 (pa_cons (pv 3) (pa_cons (pe_ix ix_list (pv 8) (pv 9) (fun _ _ => rfl)) pa_nil)))) (pss_one (ps_ret pe_bl)) pss_nil) (pss_one (ps_for PassesOwn.never rfl (pi_range1 rfl T.n_range (pa_cons (pe_callB call_len_seq (by rfl) T.n_len boot_len (pa_cons (pv 0) pa_nil)) pa_nil)) (pg_name (i := 10) sc__law_is_missing.nd rfl (Or.inl rfl)) (pss_one (ps_if (pt_val (pe_call (ok__law_can T) (hr.mono (by decide)) rfl T.g__law_can T.f__law_can.kp T.b__law_can .nil pass0 (pa_cons (pv 0) (pa_cons (pe_ix ix_list (pv 8) (pv 9) (fun _ _ => rfl)) (pa_cons (pv 10) pa_nil))))) (pss_cons (ps_set (i := 11) sc__law_is_missing.nd rfl (Or.inl rfl) (pe_call (ok__law_after T) (hr.mono (by decide)) rfl T.g__law_after T.f__law_after.kp T.b__law_after .nil pass0 (pa_cons (pv 0) (pa_cons (pe_ix ix_list (pv 8) (pv 9) (fun _ _ => rfl)) (pa_cons (pv 10) pa_nil))))) (pss_one (ps_if (PW.pt (pw_and (pt_cmp (pc_dnotin (hu_of hr) (pv 11) (pv 6))) (pw_and1 (pt_not (pt_val (pe_call (ok__law_has T) (hr.mono (by decide)) rfl T.g__law_has T.f__law_has.kp T.b__law_has .nil pass0 (pa_cons (pv 4) (pa_cons (pv 11) pa_nil)))))))) (pss_cons (ps_dput (hu_of hr) (pv 6) (pv 11) pe_bl rfl) (pss_one (ps_expr (pe_bm PySem.F.plainAttrs_list PySem.F.slot_list_append PySem.F.type_list_append mt_append (pv 8) (pa_cons (pv 11) pa_nil))))) pss_nil))) pss_nil))))) pss_nil))) (pss_one (ps_ret pe_bl))))))), ?_⟩
  rintro ⟨m, ea, la, piece⟩ w0 σ Q hm o k
  have hm : OkM m := hm
  have hfew := hm.few
  have hdl := hm.deeds
  have k : ∀ (b : Bool) v w2, (b = true ↔ Missing m.deeds m.first ea la piece) → Le w0 w2 → v = V.bl b → Q v w2.H := fun b v w2 hb l e => k v w2 l ⟨b, hb, e⟩
  have o : EnvOk w0.G σ [some (sDeeds m.deeds), some (sNs m.first), some (sNs ea), some (sNs la), some (sPiece piece), none, none, none, none, none, none, none] := o
  have hst : KsOk m.sizes (startsF m.deeds m.first ea piece) := (steps_ok hm []).filter
  have few0 := (steps_ok hm []).few hm
  refine q_set (s := sPiece (startsF m.deeds m.first ea piece)) o (e_is (el_lc (Z := sNs) (fun d => inF ea d && !hasF piece d) (fun d => d) (i_keysL (VP := isI) (ed_steps (m := m) (piece := []) hm (ea_cons (e_var rfl) (ea_cons (e_var rfl) (ea_cons (el_nil (R := sNs)).e ea_nil))))) (by omega) (fun _ => b_name) (by decide)
    (fun d _ => t_and (t_B (e_call (ea, d) trivial (ea_cons (e_var rfl) (ea_cons (e_var rfl) ea_nil)))) fun _ => t_not (t_B (e_call (piece, d) trivial (ea_cons (e_var rfl) (ea_cons (e_var rfl) ea_nil))))) (fun d _ _ => e_var rfl)).e (by rw [List.map_id']; rfl)) fun σ1 w1 l1 o1 => ?_
  have missing0 : ∀ (k : Nat) (x : List Nat), k < 5000 → (bfsF m.deeds piece (startsF m.deeds m.first ea piece) k)[k]? = some x → inF la x = true → Missing m.deeds m.first ea la piece := fun k x h1 h2 h3 => ⟨k, x, h1, h2, h3⟩
  have missing1 : Missing m.deeds m.first ea la piece → ∃ k x, k < 5000 ∧ (bfsF m.deeds piece (startsF m.deeds m.first ea piece) k)[k]? = some x ∧ inF la x = true := fun h => h
  generalize startsF m.deeds m.first ea piece = start at *
  have fews := hst.few hm
  refine q_dnew (VP := isB) o1 fun d σ2 w2 l2 nd da2 o2 => ?_
  have o2 : EnvOk w2.G σ2 [some (sDeeds m.deeds), some (sNs m.first), some (sNs ea), some (sNs la), some (sPiece piece), some (sPiece start), some (sRef d), none, none, none, none, none] := o2
  have nd0 : w0.H d = none := Le.free l1 nd
  refine q_for o2 (i_list (R := sNs) (xs := start) (e_var rfl)) (fun _ => b_name) (fun _ => [some (sDeeds m.deeds), some (sNs m.first), some (sNs ea), some (sNs la), some (sPiece piece), some (sPiece start), some (sRef d), none, none, none, none, none])
    (fun i u => Le w0 u ∧ DictAt isB d (start.take i) u) (fun _ _ _ h l => ⟨h.1.trans l, h.2.up l⟩) (fun u lu ou => ⟨ou, l1.trans (l2.trans lu), da2.up lu⟩) (fun i x σ3 u hx o3 h N hN => ?_) (fun σ3 u o3 h => ?_)
  · have etk : start.take (i + 1) = start.take i ++ [x] := by rw [List.take_add_one, hx]; rfl
    have hnx : x ∉ start.take i := fun hm' => by
      obtain ⟨j, hj⟩ := List.mem_iff_getElem?.mp hm'
      rw [List.getElem?_take] at hj
      split at hj
      · rename_i hlt
        obtain ⟨h1, e1⟩ := List.getElem?_eq_some_iff.mp hj
        obtain ⟨h2, e2⟩ := List.getElem?_eq_some_iff.mp hx
        have := List.pairwise_iff_getElem.mp hst.nd j i h1 h2 hlt
        exact this (e1.trans e2.symm)
      · cases hj
    refine s_dput (VP := isB) (x := x) o3 h.2 (by rw [List.length_take]; omega) hnx (fun Q' q' => q' _ u .refl ⟨true, rfl⟩) (e_var rfl) (e_var (s := sNs x) rfl) fun u2 l4 da4 o5 => ?_
    exact hN σ3 u2 _ o5 (fun o => o.drop 7) ⟨Le.thenB h.1 l4 fun b hb => by rw [List.mem_singleton.mp hb]; exact nd0, by rw [etk]; exact da4⟩ l4.g
  rw [List.take_length] at h
  obtain ⟨Lu, da⟩ := h
  refine q_setL (R := sNs) (xs := start) (w0 := w0) Lu o3 (el_listL (e_var rfl)) fun lo σ4 w4 l4 ow4 o4 n4 => ?_
  have ne : d ≠ lo := fun e => by
    obtain ⟨_, q, _⟩ := da.at_
    rw [e, n4] at q
    cases q
  have ni : ∀ {a c : Addr}, a ≠ c → a ∉ [c] := fun h m => h (List.mem_singleton.mp m)
  have fd : ∀ b ∈ [d], w0.H b = none := fun b hb => by rw [List.mem_singleton.mp hb]; exact nd0
  have o4 : EnvOk w4.G σ4 [some (sDeeds m.deeds), some (sNs m.first), some (sNs ea), some (sNs la), some (sPiece piece), some (sPiece start), some (sRef d), none, some (sRef lo), none, none, none] := o4
  refine q_for o4 (i_range1 (n := 5000) (by decide) (e_n 5000 5000)) (fun _ => b_name) (fun _ => [some (sDeeds m.deeds), some (sNs m.first), some (sNs ea), some (sNs la), some (sPiece piece), some (sPiece start), some (sRef d), none, some (sRef lo), none, none, none])
    (fun i u2 => Own w0 lo sNs (bfsF m.deeds piece start i) u2 ∧ DictAt isB d (bfsF m.deeds piece start i) u2 ∧ ∀ j, j < i → ∀ x, (bfsF m.deeds piece start j)[j]? = some x → inF la x = false) (fun _ _ _ h l => ⟨h.1.up l, h.2.1.up l, h.2.2⟩) (fun u2 lu ou => ⟨ou, ow4.up lu, (da.up l4).up lu, fun j hj => absurd hj (Nat.not_lt_zero j)⟩) (fun i k2 σ4 u2 hk o4 h4 N hN => ?_) (fun σ4 u2 o4 h4 => ?_)
  · obtain ⟨ow, da, hno⟩ := h4
    obtain ⟨ek, hi⟩ := range_at hk
    subst ek
    have kok := bfs_ok (piece := piece) hm.deed hst k2
    have hit : ∀ x, (bfsF m.deeds piece start k2)[k2]? = some x → inF la x = true → Missing m.deeds m.first ea la piece := fun x h1 h2 => missing0 k2 x hi h1 h2
    have hno2 : (∀ x, (bfsF m.deeds piece start k2)[k2]? = some x → inF la x = false) → ∀ j, j < k2 + 1 → ∀ x, (bfsF m.deeds piece start j)[j]? = some x → inF la x = false := fun h j hj x hx => by
      by_cases e : j = k2
      · subst e
        exact h x hx
      · exact hno j (by omega) x hx
    rw [bfs_succ] at hN
    generalize hgen : bfsF m.deeds piece start k2 = ks at *
    have o4 : EnvOk u2.G σ4 [some (sDeeds m.deeds), some (sNs m.first), some (sNs ea), some (sNs la), some (sPiece piece), some (sPiece start), some (sRef d), none, some (sRef lo), some (sNat k2), none, none] := o4
    refine s_if o4 (t_ltN (e_var rfl) (e_lenOw ow (e_var rfl))) (fun q u3 l3 o5 => ?_) (fun q u3 l3 o5 => ?_)
    · have hlt : k2 < ks.length := of_decide_eq_true q
      obtain ⟨x, hx⟩ : ∃ x, ks[k2]? = some x := ⟨_, List.getElem?_eq_getElem hlt⟩
      have okx := kok.ok x (List.mem_of_getElem? hx)
      have et : turnF m.deeds piece ks k2 = m.deeds.foldl (growF piece x) ks := by unfold turnF; rw [hx]
      rw [et] at hN
      refine q_if o5 (t_B (e_call (la, x) trivial (ea_cons (e_var rfl) (ea_cons (e_ixOw (R := sNs) (i := k2) (ow.up l3) hx (e_var rfl) (e_var rfl)) ea_nil)))) (fun qi u3' l3' o5' => ?_) (fun qi u3' l3' o5' => ?_)
      · refine s_ret o5' e_c fun v u4 l6 p => k true v u4 ⟨fun _ => hit x hx qi, fun _ => rfl⟩ (ow.le.trans (l3.trans (l3'.trans l6))) p
      have hno3 := hno2 fun y hy => by
        rw [hx] at hy
        cases hy
        exact qi
      have l33 : Le u2 u3' := l3.trans l3'
      refine s_for o5' (i_range1 (n := m.deeds.length) (by omega) (e_lenL (R := sDeed) (e_var rfl))) (fun _ => b_name) (fun _ => [some (sDeeds m.deeds), some (sNs m.first), some (sNs ea), some (sNs la), some (sPiece piece), some (sPiece start), some (sRef d), none, some (sRef lo), some (sNat k2), none, none])
        (fun j u4 => Gx u2 u4 ∧ Own w0 lo sNs ((m.deeds.take j).foldl (growF piece x) ks) u4 ∧ DictAt isB d ((m.deeds.take j).foldl (growF piece x) ks) u4) (fun _ _ _ h l => ⟨fun a o q => l.g a o (h.1 a o q), h.2.1.up l, h.2.2.up l⟩) (fun u4 lu ou => ⟨ou, fun a o q => lu.g a o (l33.g a o q), ow.up (l33.trans lu), da.up (l33.trans lu)⟩) (fun j j2 σ5 u4 hj o6 h6 N2 hN2 => ?_) (fun σ5 u4 o6 h6 => ?_)
      · obtain ⟨g6, ow6, da6⟩ := h6
        obtain ⟨ej, hj⟩ := range_at hj
        subst ej
        obtain ⟨e, he⟩ : ∃ e, m.deeds[j2]? = some e := ⟨_, List.getElem?_eq_getElem hj⟩
        have oke := hm.deed e (List.mem_of_getElem? he)
        obtain ⟨r, er⟩ := grows_pre (d := x) (piece := piece) (m.deeds.take j2) ks
        have hx6 : ((m.deeds.take j2).foldl (growF piece x) ks)[k2]? = some x := by rw [er]; exact app_at hx
        have k6 := grows_ok (piece := piece) okx (m.deeds.take j2) ks (fun e he => hm.deed e (List.mem_of_mem_take he)) kok
        have few6 := k6.few hm
        rw [deeds_take he] at hN2
        generalize (m.deeds.take j2).foldl (growF piece x) ks = ks6 at *
        have at_ : AtOk ⟨m.sizes, m.deeds, x, j2, e⟩ := ⟨he, oke, okx.1⟩
        have o6 : EnvOk u4.G σ5 [some (sDeeds m.deeds), some (sNs m.first), some (sNs ea), some (sNs la), some (sPiece piece), some (sPiece start), some (sRef d), none, some (sRef lo), some (sNat k2), some (sNat j2), none] := o6
        refine s_if o6 (t_B (e_call (⟨m.sizes, m.deeds, x, j2, e⟩ : AtDeed) at_ (ea_cons (e_var rfl) (ea_cons (e_ixOw (R := sNs) (i := k2) ow6 hx6 (e_var rfl) (e_var rfl)) (ea_cons (e_var rfl) ea_nil))))) (fun qc u5 l5 o7 => ?_) (fun qc u5 l5 o7 => ?_)
        · have qc : canF x e = true := qc
          refine q_set (s := sNs (afterF x e)) o7 (e_call (⟨m.sizes, m.deeds, x, j2, e⟩ : AtDeed) at_ (ea_cons (e_var rfl) (ea_cons (e_ixOw (R := sNs) (i := k2) (ow6.up l5) hx6 (e_var rfl) (e_var rfl)) (ea_cons (e_var rfl) ea_nil)))) fun σ6 u6 l6 o8 => ?_
          have ow7 := ow6.up (l5.trans l6)
          have da7 := da6.up (l5.trans l6)
          refine s_if o8 (t_and (t_B (e_dnotin da7 (e_var (s := sNs (afterF x e)) rfl) (e_var rfl))) fun _ => t_not (t_B (e_call (piece, afterF x e) trivial (ea_cons (e_var rfl) (ea_cons (e_var rfl) ea_nil))))) (fun qn u7 l7 o9 => ?_) (fun qn u7 l7 o9 => ?_)
          · rw [Bool.and_eq_true] at qn
            have hn : afterF x e ∉ ks6 := by simpa using qn.1
            have hh : hasF piece (afterF x e) = false := by simpa using qn.2
            have eg : growF piece x ks6 e = ks6 ++ [afterF x e] := by
              unfold growF
              rw [if_pos qc, if_pos ⟨hn, hh⟩]
            rw [eg] at hN2
            refine seq (s_dput (VP := isB) (x := afterF x e) o9 (da7.up l7) (by omega) hn (fun Q' q' => q' _ u7 .refl ⟨true, rfl⟩) (e_var rfl) (e_var (s := sNs (afterF x e)) rfl) fun u8 l8 da8 o10 => ?_)
            refine s_app (x := afterF x e) o10 ((ow7.up l7).upB l8 fd (ni (Ne.symm ne))) (by omega) (e_var rfl) (e_var (s := sNs (afterF x e)) rfl) fun u9 l9 ow9 o11 => ?_
            exact hN2 σ6 u9 _ o11 (fun o => (o.drop 10).drop 11) ⟨fun a o q => l9.g a o (l8.g a o (l7.g a o (l6.g a o (l5.g a o (g6 a o q))))), ow9, da8.upB l9 (ni ne)⟩ fun a o q => l9.g a o (l8.g a o (l7.g a o (l6.g a o (l5.g a o q))))
          · have eg : growF piece x ks6 e = ks6 := by
              unfold growF
              rw [if_pos qc]
              refine if_neg fun h => ?_
              rw [show (!decide (afterF x e ∈ ks6)) = true by simpa using h.1, Bool.true_and] at qn
              have qn : (!hasF piece (afterF x e)) = false := qn
              rw [h.2] at qn
              cases qn
            rw [eg] at hN2
            exact hN2 σ6 u7 _ o9 (fun o => (o.drop 10).drop 11) ⟨fun a o q => l7.g a o (l6.g a o (l5.g a o (g6 a o q))), ow7.up l7, da7.up l7⟩ fun a o q => l7.g a o (l6.g a o (l5.g a o q))
        · have qc : canF x e = false := qc
          have eg : growF piece x ks6 e = ks6 := by
            unfold growF
            exact if_neg (by rw [qc]; decide)
          rw [eg] at hN2
          exact hN2 σ5 u5 _ o7 (fun o => o.drop 10) ⟨fun a o q => l5.g a o (g6 a o q), ow6.up l5, da6.up l5⟩ l5.g
      · rw [List.length_range, List.take_length] at h6
        exact hN σ5 u4 _ o6 (fun o => o.drop 9) ⟨h6.2.1, h6.2.2, hno3⟩ h6.1
    · have hlt : ¬ k2 < ks.length := of_decide_eq_false q
      have et : turnF m.deeds piece ks k2 = ks := by
        unfold turnF
        rw [List.getElem?_eq_none (by omega)]
      rw [et] at hN
      exact hN σ4 u3 _ o5 (fun o => o.drop 9) ⟨ow.up l3, da.up l3, hno2 fun x hx => by rw [List.getElem?_eq_none (by omega)] at hx; cases hx⟩ l3.g
  · rw [List.length_range] at h4
    refine s_ret o4 e_c fun v u3 l3 p => k false v u3 ⟨fun h => (nomatch h), fun h => ?_⟩ (h4.1.le.trans l3) p
    obtain ⟨j, x, h1, h2, h3⟩ := missing1 h
    rw [h4.2.2 j h1 x h2] at h3
    cases h3
end
end R40

set_option Elab.async false
set_option linter.all false
set_option maxRecDepth 100000
set_option maxHeartbeats 1000000
/-! Walks: the law's meet, split, without, before, included. -/
namespace R40
open PySem PySem.Spec PyProof.Rows L2 M40
theorem in_zero : ∀ l : List Nat, inV (.int 0) (l.map fun n : Nat => V.int (n : Int)) = decide (0 ∈ l)
  | [] => rfl
  | x :: r => by
    have ih := in_zero r
    have e : inV (.int 0) ((x :: r).map fun n : Nat => V.int (n : Int)) = (eqV (.int (x : Int)) (.int 0) || inV (.int 0) (r.map fun n : Nat => V.int (n : Int))) := rfl
    rw [e, ih]
    have e2 : eqV (.int (x : Int)) (.int 0) = decide (0 = x) := by
      show ((x : Int) == 0) = decide (0 = x)
      rw [Bool.eq_iff_iff, beq_iff_eq, decide_eq_true_eq]
      omega
    rw [e2, Bool.eq_iff_iff, Bool.or_eq_true, decide_eq_true_eq, decide_eq_true_eq, decide_eq_true_eq, List.mem_cons]
theorem flat_ns (l : List Nat) : (l.map fun n : Nat => V.int (n : Int)).all flatV = true := by
  rw [List.all_map, List.all_eq_true]
  intro _ _
  rfl
section
variable {Γ : Env} {w : Wd} {ta tb : TE} {K : PySem.W.Frag} {l : List Nat}
theorem e_in0T (ha : E ta Γ w (sNat 0)) (hb : E tb Γ w (sNs l)) : E (tOp (rIn K false) ta tb) Γ w (sBl (decide (0 ∈ l))) :=
  e_op ha hb fun w2 v y Q _ p p' q => by
    cases p
    obtain ⟨b, vs, rfl, h, r⟩ := p'
    have e : vs = l.map fun n : Nat => V.int (n : Int) := r.sV_eq
    rw [e] at h
    exact ⟨b, _, rfl, .inr (SqT.of (w2.sub _ _ h)), rfl, flat_ns l, q _ w2 .refl (by show V.bl (inV _ _) = _; rw [show (V.int ((0 : Nat) : Int)) = V.int 0 from rfl, in_zero])⟩
theorem e_in0L (ha : E ta Γ w (sNat 0)) (hb : E tb Γ w (sInts l)) : E (tOp (rIn K false) ta tb) Γ w (sBl (decide (0 ∈ l))) :=
  e_op ha hb fun w2 v y Q _ p p' q => by
    cases p
    obtain ⟨b, vs, rfl, h, r⟩ := p'
    have e : vs = l.map fun n : Nat => V.int (n : Int) := r.sV_eq
    rw [e] at h
    exact ⟨b, _, rfl, .inl (SqL.of (w2.sub _ _ h)), rfl, flat_ns l, q _ w2 .refl (by show V.bl (inV _ _) = _; rw [show (V.int ((0 : Nat) : Int)) = V.int 0 from rfl, in_zero])⟩
end
theorem zip_and : ∀ a b : List Nat, (a.zip b).map (fun p => p.1 &&& p.2) = List.zipWith (· &&& ·) a b
  | [], _ => rfl
  | _ :: _, [] => rfl
  | x :: a, y :: b => congrArg ((x &&& y) :: ·) (zip_and a b)
theorem and_sub (a b : Nat) : a - (a &&& b) = a ^^^ (a &&& b) := by
  have h := xor_and a (a &&& b)
  have e1 : a &&& (a &&& b) = a &&& b := by rw [← Nat.and_assoc, Nat.and_self]
  have e2 : a ||| (a &&& b) = a := by
    refine Nat.eq_of_testBit_eq fun i => ?_
    rw [Nat.testBit_or, Nat.testBit_and]
    cases a.testBit i <;> simp
  rw [e1, e2] at h
  omega
theorem xor_ne (a b : Nat) : (a ^^^ b != 0) = (a != b) := by
  rw [Bool.eq_iff_iff, bne_iff_ne, bne_iff_ne]
  constructor
  · intro h e
    exact h (by rw [e, Nat.xor_self])
  · intro h e
    refine h (Nat.eq_of_testBit_eq fun i => ?_)
    have := congrArg (fun n => Nat.testBit n i) e
    simp only [Nat.testBit_xor, Nat.zero_testBit] at this
    cases h1 : a.testBit i <;> cases h2 : b.testBit i <;> rw [h1, h2] at this <;> first | rfl | cases this
section
variable {P : Program} {w : World} {K : PySem.W.Frag} {mg : Str → Option Value} {base : Heap}
theorem ok__law_meet (T : Txt K mg) : Ok__law_meet P w K mg base spMeet := by
  refine okP T.f__law_meet sc__law_meet (fun _ => rfl) fun cdv A outer s H E hr => ⟨_, (pss_cons (ps_set (i := 2) sc__law_meet.nd rfl (Or.inl rfl) (pe_callTy call_tuple_of (by rfl) T.n_tuple (by decide +kernel) (pa_cons (pe_lc (own := [("_law_left", 3), ("_law_right", 4)]) (g := (gTup K 2 (gCons (gName 3) (gCons (gName 4) gNil)))) (tt := tYes) (te := (tOp rAnd (tVar 3) (tVar 4))) rfl sc__law_meet.nd (RZ.pi_zipA (by rfl) T.n_zip (pa_cons (pv 0) (pa_cons (pv 1) pa_nil))) (blkOk_by (own := [("_law_left", 3), ("_law_right", 4)]) (N := N__law_meet) (sc := defScope st__law_meet) (by decide +kernel)) (fun _ _ _ _ _ => (pg_tup rfl (pgs_cons (pg_name (i := 3) sc__law_meet.nd rfl (Or.inl rfl)) (pgs_cons (pg_name (i := 4) sc__law_meet.nd rfl (Or.inl rfl)) pgs_nil)))) (fun _ _ _ _ _ => pts_nil) (fun _ _ _ _ _ => (pe_op op_and (pv 3) (pv 4)))) pa_nil))) (pss_one (ps_ret (pe_ifExp (pt_cmpR op_in_seq pe_int (pv 2) rfl) pe_non (pv 2))))), ?_⟩
  rintro ⟨a, b⟩ w0 σ Q (hl : a.length ≤ 1000) o k
  have o : EnvOk w0.G σ [some (sNs a), some (sNs b), none, none, none] := o
  have k : ∀ v w2, Le w0 w2 → (sOpt sNs (meetF a b)).P w2.G v → Q v w2.H := k
  refine q_set (s := sNs (List.zipWith (· &&& ·) a b)) o (e_is (e_tupN (el_lcM (Z := fun n : Nat => sNat n) (fun p => p.1 &&& p.2) (i_zipTT (R := fun n : Nat => sNat n) (S := fun n : Nat => sNat n) (xs := a) (ys := b) (e_var rfl) (e_var rfl)) (by rw [List.length_zip]; omega) (fun _ => b_t2 b_name b_name) (by decide)
    (fun p _ => e_and (a := p.1) (b := p.2) (e_var rfl) (e_var rfl)))) (by rw [zip_and])) fun σ1 w1 l1 o1 => ?_
  refine s_ret (s := sOpt sNs (meetF a b)) o1 (e_if (t_test (e_in0T (e_n 0 0) (e_var rfl))) (fun q => ?_) (fun q => ?_)) fun v w2 l2 p => k v w2 (l1.trans l2) p
  · have q := of_decide_eq_true q
    rw [show meetF a b = none from if_pos q]
    exact e_c
  · have q := of_decide_eq_false q
    rw [show meetF a b = some _ from if_neg q]
    exact e_var rfl
abbrev spLSplit : Sp := spP (fun x : List Nat × List Nat => x.1.length ≤ 1000 ∧ x.1.length = x.2.length) (fun x => [sNs x.1, sNs x.2]) (fun x => sPiece (splitF x.1 x.2))
theorem ok__law_split (T : Txt K mg) : Ok__law_split P w K mg base spLSplit := by
  refine okP T.f__law_split sc__law_split (fun _ => rfl) fun cdv A outer s H E hr => ⟨_, (pss_cons (ps_set (i := 2) sc__law_split.nd rfl (Or.inl rfl) (pe_call (ok__law_meet T) (hr.mono (by decide)) rfl T.g__law_meet T.f__law_meet.kp T.b__law_meet .nil pass0 (pa_cons (pv 0) (pa_cons (pv 1) pa_nil)))) (pss_cons (ps_if (pt_cmpR op_isN (pv 2) pe_non (nomark _)) (pss_one (ps_ret (pe_lst (pa_cons (pv 0) pa_nil)))) pss_nil) (pss_cons (ps_set (i := 3) sc__law_split.nd rfl (Or.inl rfl) (pe_lst pa_nil)) (pss_cons (ps_for PassesOwn.never rfl (pi_range1 rfl T.n_range (pa_cons (pe_callB call_len_seq (by rfl) T.n_len boot_len (pa_cons (pv 0) pa_nil)) pa_nil)) (pg_name (i := 4) sc__law_split.nd rfl (Or.inl rfl)) (pss_one (ps_if (pt_cmpR op_ne (pe_ix ix_tup (pv 0) (pv 4) (fun _ _ => rfl)) (pe_ix ix_tup (pv 2) (pv 4) (fun _ _ => rfl)) (nomark _)) (pss_one (ps_expr (pe_bm PySem.F.plainAttrs_list PySem.F.slot_list_append PySem.F.type_list_append mt_append (pv 3) (pa_cons (pe_op op_catA (pe_op op_catA (pe_slice sl_tupA (pv 2) po_none (po_some (pv 4))) (pe_tup (pa_cons (pe_op op_sub (pe_ix ix_tup (pv 0) (pv 4) (fun _ _ => rfl)) (pe_ix ix_tup (pv 2) (pv 4) (fun _ _ => rfl))) pa_nil))) (pe_slice sl_tupA (pv 0) (po_some (pe_op op_add (pv 4) pe_int)) po_none)) pa_nil)))) pss_nil))) (pss_one (ps_ret (pv 3))))))), ?_⟩
  rintro ⟨a, b⟩ w0 σ Q ⟨hl, hab⟩ o k
  have hl : a.length ≤ 1000 := hl
  have hab : a.length = b.length := hab
  have o : EnvOk w0.G σ [some (sNs a), some (sNs b), none, none, none] := o
  have k : ∀ v w2, Le w0 w2 → (sPiece (splitF a b)).P w2.G v → Q v w2.H := k
  refine q_set (s := sOpt sNs (meetF a b)) o (e_call (a, b) hl (ea_cons (e_var rfl) (ea_cons (e_var rfl) ea_nil))) fun σ1 w1 l1 o1 => ?_
  refine q_if o1 (t_test (e_isN (meetF a b).isNone (opt_isN tup_ne _) (e_var rfl))) (fun e w2 l2 o2 => ?_) (fun e w2 l2 o2 => ?_)
  · have em : meetF a b = none := Option.isNone_iff_eq_none.mp e
    refine s_ret o2 (el_one (R := sNs) (x := a) (e_var rfl)).e fun v w3 l3 pv => k v w3 (l1.trans (l2.trans l3)) ?_
    unfold splitF
    rw [em]
    exact pv
  · obtain ⟨both, em⟩ : ∃ both, meetF a b = some both := by
      cases q : meetF a b with
      | none =>
        rw [q] at e
        cases e
      | some c => exact ⟨c, rfl⟩
    have lb : both.length = a.length := by rw [meet_len em]; omega
    have eb : ∀ i, i < a.length → at0 both i = at0 a i &&& at0 b i := fun i hi => by
      rw [(meet_some em).1, at0_zw hi (by omega)]
    rw [em] at o2
    have o2 : EnvOk w2.G σ1 [some (sNs a), some (sNs b), some (sNs both), none, none] := o2
    refine q_setL (R := sNs) (xs := []) (w0 := w0) (l1.trans l2) o2 el_nil fun l σ3 w3 l3 ow o3 n3 => ?_
    have o3 : EnvOk w3.G σ3 [some (sNs a), some (sNs b), some (sNs both), some (sRef l), none] := o3
    refine q_for o3 (i_range1 (n := a.length) (by omega) (e_lenT (R := fun n : Nat => sNat n) (e_var rfl))) (fun _ => b_name) (fun _ => [some (sNs a), some (sNs b), some (sNs both), some (sRef l), none])
      (fun i w4 => Own w0 l sNs (((List.range i).filter fun k => at0 a k ^^^ at0 both k != 0).map (splitPart a both)) w4) (fun _ _ _ h l => h.up l) (fun w4 l4 o4 => ⟨o4, ow.up l4⟩)
      (fun i p σ4 w4 hp o4 h4 N hN => ?_) (fun σ4 w4 o4 h4 => ?_)
    · obtain ⟨ep, hi⟩ := range_at hp
      subst ep
      have ha1 : a[p]? = some (at0 a p) := at0_some hi
      have hb1 : both[p]? = some (at0 both p) := at0_some (by omega)
      have step : ∀ b, (at0 a p ^^^ at0 both p != 0) = b → ((List.range (p + 1)).filter fun k => at0 a k ^^^ at0 both k != 0).map (splitPart a both) =
          ((List.range p).filter fun k => at0 a k ^^^ at0 both k != 0).map (splitPart a both) ++ (if b then [splitPart a both p] else []) := fun b hb => by
        rw [List.range_succ, List.filter_append, List.map_append]
        congr 1
        rw [List.filter_cons, hb]
        cases b <;> rfl
      have o4 : EnvOk w4.G σ4 [some (sNs a), some (sNs b), some (sNs both), some (sRef l), some (sNat p)] := o4
      refine s_if o4 (t_neN (a := at0 a p) (b := at0 both p) (e_ixT (R := fun n : Nat => sNat n) (i := p) ha1 (e_var rfl) (e_var rfl)) (e_ixT (R := fun n : Nat => sNat n) (i := p) hb1 (e_var rfl) (e_var rfl))) (fun e w6 l6 o6 => ?_) (fun e w6 l6 o6 => ?_)
      · have e1 : at0 a p - at0 both p = at0 a p ^^^ at0 both p := by rw [eb p hi]; exact and_sub _ _
        have hle : at0 both p ≤ at0 a p := by rw [eb p hi]; exact Nat.and_le_left
        rw [← xor_ne] at e
        have ee : splitPart a both p = both.take p ++ [at0 a p - at0 both p] ++ a.drop (p + 1) := by
          unfold splitPart
          rw [e1]
        refine s_app (x := splitPart a both p) o6 (h4.up l6) ?_ (e_var rfl) (e_is (e_catA (xs := both.take p ++ [at0 a p - at0 both p]) (ys := a.drop (p + 1)) ?_ (e_catA (xs := both.take p) (ys := [at0 a p - at0 both p]) ?_
          (e_slB (e_var (s := sNs both) rfl) (e_var (s := sNat p) rfl)) (e_tup1 (R := fun n : Nat => sNat n) (e_minus hle (e_ixT (R := fun n : Nat => sNat n) (i := p) ha1 (e_var rfl) (e_var rfl)) (e_ixT (R := fun n : Nat => sNat n) (i := p) hb1 (e_var rfl) (e_var rfl)))))
          (e_slA (e_var (s := sNs a) rfl) (e_plus (a := p) (b := 1) (e_var rfl) (e_n 1 1)))) (by rw [ee])) fun w7 l7 ow7 o7 => ?_
        · rw [List.length_map]
          have := List.length_filter_le (fun k => at0 a k ^^^ at0 both k != 0) (List.range p)
          rw [List.length_range] at this
          omega
        · rw [List.length_append, List.length_take, List.length_drop, List.length_singleton]
          omega
        · rw [List.length_take, List.length_singleton]
          omega
        · refine hN σ4 w7 _ o7 (fun o => o.drop 4) ?_ (fun b u z => l7.g b u (l6.g b u z))
          rw [step true e]
          exact ow7
      · refine hN σ4 w6 _ o6 (fun o => o.drop 4) ?_ l6.g
        rw [← xor_ne] at e
        rw [step false e, if_neg (by decide), List.append_nil]
        exact h4.up l6
    · rw [List.length_range] at h4
      refine s_retOw o4 h4 (e_var rfl) fun v w5 l5 pv => k v w5 l5 ?_
      unfold splitF
      rw [em]
      exact pv
theorem flat_take {α β : Type} {f : α → List β} {l : List α} {j : Nat} {x : α} (h : l[j]? = some x) : (l.take (j + 1)).flatMap f = (l.take j).flatMap f ++ f x := by
  rw [List.take_add_one, h, List.flatMap_append]
  simp
theorem flat_le2 {α β : Type} {f : α → List β} {l : List α} {j : Nat} : ((l.take j).flatMap f).length ≤ (l.flatMap f).length := by
  have e : l.flatMap f = (l.take j).flatMap f ++ (l.drop j).flatMap f := by rw [← List.flatMap_append, List.take_append_drop]
  rw [e, List.length_append]
  omega
theorem ok__law_without (T : Txt K mg) : Ok__law_without P w K mg base spWithout := by
  refine okP T.f__law_without sc__law_without (fun _ => rfl) fun cdv A outer s H E hr => ⟨_, (pss_cons (ps_set (i := 2) sc__law_without.nd rfl (Or.inl rfl) (pe_lst (pa_cons (pv 0) pa_nil))) (pss_cons (ps_for PassesOwn.never rfl (pi_list (pv 1)) (pg_name (i := 3) sc__law_without.nd rfl (Or.inl rfl)) (pss_cons (ps_set (i := 4) sc__law_without.nd rfl (Or.inl rfl) (pe_lst pa_nil)) (pss_cons (ps_for PassesOwn.never rfl (pi_list (pv 2)) (pg_name (i := 5) sc__law_without.nd rfl (Or.inl rfl)) (pss_one (ps_set (i := 4) sc__law_without.nd rfl (Or.inl rfl) (pe_op op_cat (pv 4) (pe_call (ok__law_split T) (hr.mono (by decide)) rfl T.g__law_split T.f__law_split.kp T.b__law_split .nil pass0 (pa_cons (pv 5) (pa_cons (pv 3) pa_nil))))))) (pss_one (ps_set (i := 2) sc__law_without.nd rfl (Or.inl rfl) (pv 4)))))) (pss_one (ps_ret (pv 2))))), ?_⟩
  rintro ⟨a, piece⟩ w0 σ Q ⟨hl, hn, hp⟩ o k
  have hl : a.length ≤ 4 := hl
  have hn : piece.length ≤ 2 := hn
  have hp : ∀ s ∈ piece, s.length = a.length := hp
  have o : EnvOk w0.G σ [some (sNs a), some (sPiece piece), none, none, none, none] := o
  have k : ∀ v w2, Le w0 w2 → (sPiece (withoutF a piece)).P w2.G v → Q v w2.H := k
  refine q_set (s := sPiece (withoutF a (piece.take 0))) o (el_one (R := sNs) (x := a) (e_var rfl)).e fun σ1 w1 l1 o1 => ?_
  refine q_for o1 (i_list (R := sNs) (xs := piece) (e_var rfl)) (fun p => b_name) (fun i => [some (sNs a), some (sPiece piece), some (sPiece (withoutF a (piece.take i))), none, none, none]) (fun _ w2 => Le w0 w2)
    (fun _ _ _ h l => h.trans l) (fun w2 l2 o2 => ⟨o2, l1.trans l2⟩) (fun i sk σ2 w2 hs o2 h2 N hN => ?_) (fun σ2 w2 o2 h2 => ?_)
  · have hpi : ∀ z ∈ piece.take i, z.length = a.length := fun z hz => hp z (List.mem_of_mem_take hz)
    have ha1 : ∀ z ∈ [a], z.length = a.length := fun z hz => by rw [List.mem_singleton.mp hz]
    have hw : ∀ z ∈ withoutF a (piece.take i), z.length = a.length := without_len (piece.take i) [a] hpi ha1
    have hsk : sk.length = a.length := hp sk (List.mem_of_getElem? hs)
    have few : ((withoutF a (piece.take i)).flatMap fun o => splitF o sk).length ≤ 25 := by
      have q := without_few (a := a) hl (piece.take (i + 1)) [a] (fun z hz => hp z (List.mem_of_mem_take hz)) ha1
      have q2 : (withoutF a (piece.take (i + 1))).length ≤ 1 * 5 ^ (piece.take (i + 1)).length := q
      rw [fold_take hs] at q2
      have q3 : (piece.take (i + 1)).length ≤ 2 := by rw [List.length_take]; omega
      have q4 : 5 ^ (piece.take (i + 1)).length ≤ 5 ^ 2 := Nat.pow_le_pow_right (by decide) q3
      omega
    rw [fold_take hs] at hN
    generalize withoutF a (piece.take i) = parts at *
    refine q_set (s := sPiece ((parts.take 0).flatMap fun o => splitF o sk)) o2 (el_nil (R := sNs)).e fun σ3 w3 l3 o3 => ?_
    have o3 : EnvOk w3.G σ3 [some (sNs a), some (sPiece piece), some (sPiece parts), some (sNs sk), some (sPiece ((parts.take 0).flatMap fun o => splitF o sk)), none] := o3
    refine q_for o3 (i_list (R := sNs) (xs := parts) (e_var rfl)) (fun p => b_name) (fun j => [some (sNs a), some (sPiece piece), some (sPiece parts), some (sNs sk), some (sPiece ((parts.take j).flatMap fun o => splitF o sk)), none]) (fun _ u => Le w0 u ∧ Gx w2 u)
      (fun _ _ _ h l => ⟨h.1.trans l, fun a o q => l.g a o (h.2 a o q)⟩) (fun u lu ou => ⟨ou, h2.trans (l3.trans lu), fun a o q => lu.g a o (l3.g a o q)⟩) (fun j x σ4 u hx o4 h4 N2 hN2 => ?_) (fun σ4 u o4 h4 => ?_)
    · have hxl := hw x (List.mem_of_getElem? hx)
      have hs1 : ((parts.take j).flatMap fun o => splitF o sk).length + (splitF x sk).length ≤ 1000000 := by
        have q := flat_le2 (f := fun o => splitF o sk) (l := parts) (j := j + 1)
        rw [flat_take hx, List.length_append] at q
        omega
      refine s_set (s := sPiece ((parts.take (j + 1)).flatMap fun o => splitF o sk)) o4 (e_is (el_cat (R := sNs) (xs := (parts.take j).flatMap fun o => splitF o sk) (ys := splitF x sk) hs1 (e_var rfl) (e_call (x, sk) ⟨by rw [hxl]; omega, by rw [hxl, hsk]⟩ (ea_cons (e_var rfl) (ea_cons (e_var rfl) ea_nil)))).e (by rw [flat_take hx])) fun σ5 u5 l5 o5 => ?_
      exact hN2 σ5 u5 _ o5 (fun o => o.drop 5) ⟨h4.1.trans l5, fun a o q => l5.g a o (h4.2 a o q)⟩ l5.g
    · rw [List.take_length] at o4
      refine s_set (s := sPiece (parts.flatMap fun o => splitF o sk)) o4 (e_var (s := sPiece (parts.flatMap fun o => splitF o sk)) rfl) fun σ5 u5 l5 o5 => ?_
      exact hN σ5 u5 _ o5 (fun o => (o.drop 3).drop 4) (h4.1.trans l5) fun a o q => l5.g a o (h4.2 a o q)
  · refine s_ret o2 (e_var (s := sPiece (withoutF a (piece.take piece.length))) rfl) fun v w3 l3 pv => k v w3 (h2.trans l3) ?_
    rw [List.take_length] at pv
    exact pv
abbrev spLIncluded : Sp := spP (fun _ : List Nat × List Nat => True) (fun x => [sNs x.1, sNs x.2]) (fun x => sBl (incF x.1 x.2))
theorem ok__law_included (T : Txt K mg) : Ok__law_included P w K mg base spLIncluded := by
  refine okP T.f__law_included sc__law_included (fun _ => rfl) fun cdv A outer s H E hr => ⟨_, (pss_cons (ps_for PassesOwn.never rfl (RZ.pi_zipA (by rfl) T.n_zip (pa_cons (pv 0) (pa_cons (pv 1) pa_nil))) (pg_tup rfl (pgs_cons (pg_name (i := 2) sc__law_included.nd rfl (Or.inl rfl)) (pgs_cons (pg_name (i := 3) sc__law_included.nd rfl (Or.inl rfl)) pgs_nil))) (pss_one (ps_if (pt_cmpR op_ne (pe_op op_and (pv 2) (pv 3)) (pv 2) (nomark _)) (pss_one (ps_ret pe_bl)) pss_nil))) (pss_one (ps_ret pe_bl))), ?_⟩
  rintro ⟨sk, d⟩ w0 σ Q _ o k
  have o : EnvOk w0.G σ [some (sNs sk), some (sNs d), none, none] := o
  have k : ∀ v w2, Le w0 w2 → (sBl (incF sk d)).P w2.G v → Q v w2.H := k
  refine q_forAll (xs := sk.zip d) (fun p => p.1 &&& p.2 == p.1) (.bl false) .refl o (i_zipTT (R := fun n : Nat => sNat n) (S := fun n : Nat => sNat n) (e_var rfl) (e_var rfl)) (fun _ => b_t2 b_name b_name) (fun x G σ' o => (o.drop 2).drop 3) (fun p hp σ1 w1 o1 l1 N hN hF => ?_) (fun e w2 l2 => k _ w2 l2 (by
    show V.bl false = V.bl (incF sk d)
    unfold incF
    rw [e])) (fun e σ2 w2 l2 o2 => ?_)
  · refine s_if o1 (t_neN (a := p.1 &&& p.2) (b := p.1) (e_and (a := p.1) (b := p.2) (e_var rfl) (e_var rfl)) (e_var rfl)) (fun q w3 l3 o3 => s_ret o3 e_c fun v w4 l4 pv => hF (by simpa using q) v w4 (l3.trans l4) pv) (fun q w3 l3 o3 => hN (by simpa using q) w3 l3)
  · refine s_ret o2 e_c fun v w3 l3 pv => k v w3 (l2.trans l3) ?_
    unfold incF
    rw [e]
    exact pv
end
end R40

set_option Elab.async false
set_option linter.all false
set_option maxRecDepth 100000
set_option maxHeartbeats 1000000
/-! Walks: the law's before, covers, are_sketches. -/
namespace R40
open PySem PySem.Spec PyProof.Rows L2 M40
section
variable {P : Program} {w : World} {K : PySem.W.Frag} {mg : Str → Option Value} {base : Heap}
abbrev spLBefore : Sp := spP (fun x : Mach × List Nat × Nat × Deed => OkM x.1 ∧ x.2.1.length = x.1.sizes.length ∧ x.1.deeds[x.2.2.1]? = some x.2.2.2) (fun x => [sDeeds x.1.deeds, sInts x.1.sizes, sNs x.2.1, sNat x.2.2.1]) (fun x => sOpt sNs (beforeF x.1.sizes x.2.1 x.2.2.2))
theorem ok__law_before (T : Txt K mg) : Ok__law_before P w K mg base spLBefore := by
  refine okP T.f__law_before sc__law_before (fun _ => rfl) fun cdv A outer s H E hr => ⟨_, (pss_cons (ps_asg (pe_ix ix_list (pv 0) (pv 3) (fun _ _ => rfl)) (pg_tup rfl (pgs_cons (pg_name (i := 4) sc__law_before.nd rfl (Or.inl rfl)) (pgs_cons (pg_name (i := 5) sc__law_before.nd rfl (Or.inl rfl)) (pgs_cons (pg_name (i := 6) sc__law_before.nd rfl (Or.inl rfl)) pgs_nil))))) (pss_cons (ps_set (i := 7) sc__law_before.nd rfl (Or.inl rfl) (pe_callTy call_list_of (by rfl) T.n_list (by decide +kernel) (pa_cons (pv 2) pa_nil))) (pss_cons (ps_for PassesOwn.never rfl (pi_tup (pv 6)) (pg_tup rfl (pgs_cons (pg_name (i := 8) sc__law_before.nd rfl (Or.inl rfl)) (pgs_cons (pg_name (i := 9) sc__law_before.nd rfl (Or.inl rfl)) pgs_nil))) (pss_one (ps_asg (pe_op op_sub (pe_op op_shl pe_int (pe_ix ix_list (pv 1) (pv 8) (fun _ _ => rfl))) pe_int) (pg_sub (pv 7) (pv 8) set_list)))) (pss_cons (ps_for PassesOwn.never rfl (pi_tup (pv 6)) (pg_tup rfl (pgs_cons (pg_name (i := 8) sc__law_before.nd rfl (Or.inl rfl)) (pgs_cons (pg_name (i := 9) sc__law_before.nd rfl (Or.inl rfl)) pgs_nil))) (pss_one (ps_if (pt_cmpR op_eq (pe_ix ix_tup (pv 9) pe_int (fun _ _ => rfl)) pe_str (nomark _)) (pss_one (ps_asg (pe_op op_and (pe_ix ix_list (pv 7) (pe_ix ix_tup (pv 9) pe_int (fun _ _ => rfl)) (fun _ _ => rfl)) (pe_ix ix_tup (pv 2) (pv 8) (fun _ _ => rfl))) (pg_sub (pv 7) (pe_ix ix_tup (pv 9) pe_int (fun _ _ => rfl)) set_list))) (pss_one (ps_if (pt_cmpR op_eq (pe_op op_and (pe_op op_shr (pe_ix ix_tup (pv 2) (pv 8) (fun _ _ => rfl)) (pe_ix ix_tup (pv 9) pe_int (fun _ _ => rfl))) pe_int) pe_int (nomark _)) (pss_one (ps_ret pe_non)) pss_nil))))) (pss_cons (ps_for PassesOwn.never rfl (pi_tup (pv 5)) (pg_tup rfl (pgs_cons (pg_name (i := 8) sc__law_before.nd rfl (Or.inl rfl)) (pgs_cons (pg_name (i := 10) sc__law_before.nd rfl (Or.inl rfl)) pgs_nil))) (pss_one (ps_asg (pe_op op_and (pe_ix ix_list (pv 7) (pv 8) (fun _ _ => rfl)) (pv 10)) (pg_sub (pv 7) (pv 8) set_list)))) (pss_one (ps_ret (pe_ifExp (pt_cmpR op_in_seq pe_int (pv 7) rfl) pe_non (pe_callTy call_tuple_of (by rfl) T.n_tuple (by decide +kernel) (pa_cons (pv 7) pa_nil)))))))))), ?_⟩
  rintro ⟨m, sk, d, e⟩ w0 σ Q ⟨hm, hs, he⟩ o k
  have hm : OkM m := hm
  have hs : sk.length = m.sizes.length := hs
  have he : m.deeds[d]? = some e := he
  have hfew := hm.few
  have k : ∀ v w2, Le w0 w2 → (sOpt sNs (beforeF m.sizes sk e)).P w2.G v → Q v w2.H := k
  have hd : OkDeed m.sizes e := hm.deed e (List.mem_of_getElem? he)
  have o : EnvOk w0.G σ [some (sDeeds m.deeds), some (sInts m.sizes), some (sNs sk), some (sNat d), none, none, none, none, none, none, none] := o
  refine q_asg o (b_t3 b_any b_name b_name) (e_ixL (R := sDeed) he (e_var rfl) (e_var rfl)) fun σ1 w1 l1 o1 => ?_
  have o1 : EnvOk w1.G σ1 [some (sDeeds m.deeds), some (sInts m.sizes), some (sNs sk), some (sNat d), some sAny, some (sTup sPr e.guard), some (sTup sChg e.chg), none, none, none, none] := o1
  refine q_setL (R := fun n : Nat => sNat n) (xs := sk) (w0 := w0) l1 o1 (el_listT (e_var rfl)) fun l σ2 w2 l2 ow o2 n2 => ?_
  have o2 : EnvOk w2.G σ2 [some (sDeeds m.deeds), some (sInts m.sizes), some (sNs sk), some (sNat d), some sAny, some (sTup sPr e.guard), some (sTup sChg e.chg), some (sRef l), none, none, none] := o2
  have szAt : ∀ c, c < m.sizes.length → m.sizes[c]? = some (at0 m.sizes c) := fun c hc => at0_some hc
  refine q_for o2 (i_tup (R := sChg) (xs := e.chg) (e_var rfl)) (fun p => b_t2 b_name (B.imp b_any fun _ _ _ => trivial))
    (fun _ => [some (sDeeds m.deeds), some (sInts m.sizes), some (sNs sk), some (sNat d), some sAny, some (sTup sPr e.guard), some (sTup sChg e.chg), some (sRef l), none, none, none])
    (fun i w4 => Own w0 l (fun n : Nat => sNat n) ((e.chg.take i).foldl (fun (m2 : List Nat) (p : Nat × Src) => m2.set p.1 (2 ^ at0 m.sizes p.1 - 1)) sk) w4 ∧ ((e.chg.take i).foldl (fun (m2 : List Nat) (p : Nat × Src) => m2.set p.1 (2 ^ at0 m.sizes p.1 - 1)) sk).length = m.sizes.length)
    (fun _ _ _ h l => ⟨h.1.up l, h.2⟩) (fun w4 l4 o4 => ⟨o4, ow.up l4, hs⟩) (fun i p σ4 w4 hp o4 h4 N hN => ?_) (fun σ4 w4 o4 h4 => ?_)
  · obtain ⟨ow4, len4⟩ := h4
    have hc := (hd.cIn p (List.mem_of_getElem? hp)).1
    have h3 := (hm.size p.1 hc).2
    refine s_put (x := 2 ^ at0 m.sizes p.1 - 1) o4 ow4 (by rw [len4]; exact hc) (e_full (by omega) (e_ixL (R := fun n : Nat => sNat n) (i := p.1) (szAt p.1 hc) (e_var rfl) (e_var rfl))) (e_var rfl) (e_var rfl) fun w5 l5 ow5 o5 => ?_
    refine hN σ4 w5 _ o5 (fun o => (o.drop 8).drop 9) ⟨?_, ?_⟩ l5.g
    · rw [freed_take hp]
      exact ow5
    · rw [freed_take hp, List.length_set]
      exact len4
  rw [List.take_length] at h4
  obtain ⟨ow4, len4⟩ := h4
  refine q_for o4 (i_tup (R := sChg) (xs := e.chg) (e_var rfl)) (fun p => b_t2 b_name (B.imp (b_name (s := sT2 (sStr (srcKind p.2)) (sNat (srcNum p.2)))) fun _ _ h => src_kind h))
    (fun _ => [some (sDeeds m.deeds), some (sInts m.sizes), some (sNs sk), some (sNat d), some sAny, some (sTup sPr e.guard), some (sTup sChg e.chg), some (sRef l), none, none, none])
    (fun i w5 => ∃ mm : List Nat, (e.chg.take i).foldl (backStep sk) (some (freed m.sizes sk e)) = some mm ∧ mm.length = m.sizes.length ∧ Own w0 l (fun n : Nat => sNat n) mm w5)
    (fun _ _ _ ⟨mm, h1, h2, h3⟩ l => ⟨mm, h1, h2, h3.up l⟩) (fun w5 l5 o5 => ⟨o5, _, rfl, len4, ow4.up l5⟩) (fun i p σ5 w5 hp o5 h5 N hN => ?_) (fun σ5 w5 o5 h5 => ?_)
  · obtain ⟨mm, hmm, lmm, ow5⟩ := h5
    obtain ⟨hc, hsrc⟩ := hd.cIn p (List.mem_of_getElem? hp)
    have skAt : sk[p.1]? = some (at0 sk p.1) := at0_some (by rw [hs]; exact hc)
    obtain ⟨c, r⟩ := p
    cases r with
    | put v =>
      have o5 : EnvOk w5.G σ5 [some (sDeeds m.deeds), some (sInts m.sizes), some (sNs sk), some (sNat d), some sAny, some (sTup sPr e.guard), some (sTup sChg e.chg), some (sRef l), some (sNat c), some (sT2 (sStr "set") (sNat v)), none] := o5
      refine s_if o5 (t_is (b := false) (t_test (e_eq (x := .str "set") (y := .str "copy") rfl (e_ix2a (s := sStr "set") (t := sNat v) (e_var rfl)) e_c)) (decide_eq_false (by intro q; injection q with q; exact absurd q (by decide +kernel)))) (fun q => nomatch q) (fun _ w6 l6 o6 => ?_)
      refine s_if o6 (t_bit0 (a := at0 sk c) (b := v) (e_ixT (R := fun n : Nat => sNat n) (i := c) skAt (e_var rfl) (e_var rfl)) (e_ix2b (s := sStr "set") (t := sNat v) (e_var rfl))) (fun q w7 l7 o7 => ?_) (fun q w7 l7 o7 => ?_)
      · have qb : (at0 sk c).testBit v = false := by simpa using q
        refine s_ret o7 e_c fun v2 w8 l8 pv => k v2 w8 (ow5.le.trans (l6.trans (l7.trans l8))) ?_
        have hb : backed m.sizes sk e = none := by
          unfold backed
          rw [← List.take_append_drop (i + 1) e.chg, List.foldl_append, back_take hp, hmm]
          show (e.chg.drop (i + 1)).foldl (backStep sk) (if (at0 sk c).testBit v then some mm else none) = none
          rw [qb]
          exact back_none _
        unfold beforeF
        rw [hb]
        exact pv
      · have qb : (at0 sk c).testBit v = true := by simpa using q
        refine hN σ5 w7 _ o7 (fun o => (o.drop 8).drop 9) ⟨mm, ?_, lmm, ow5.up (l6.trans l7)⟩ (l6.trans l7).g
        rw [back_take hp, hmm]
        show (if (at0 sk c).testBit v then some mm else none) = some mm
        rw [qb]
        rfl
    | copy b =>
      have o5 : EnvOk w5.G σ5 [some (sDeeds m.deeds), some (sInts m.sizes), some (sNs sk), some (sNat d), some sAny, some (sTup sPr e.guard), some (sTup sChg e.chg), some (sRef l), some (sNat c), some (sT2 (sStr "copy") (sNat b)), none] := o5
      have hb : b < mm.length := by rw [lmm]; exact hsrc.1
      refine s_if o5 (t_is (b := true) (t_test (e_eq (x := .str "copy") (y := .str "copy") rfl (e_ix2a (s := sStr "copy") (t := sNat b) (e_var rfl)) e_c)) (decide_eq_true rfl)) (fun _ w6 l6 o6 => ?_) (fun q => nomatch q)
      refine s_put (x := at0 mm b &&& at0 sk c) o6 (ow5.up l6) hb (e_and (e_ixOw (R := fun n : Nat => sNat n) (i := b) (ow5.up l6) (at0_some hb) (e_var rfl) (e_ix2b (s := sStr "copy") (t := sNat b) (e_var rfl))) (e_ixT (R := fun n : Nat => sNat n) (i := c) skAt (e_var rfl) (e_var rfl))) (e_var rfl) (e_ix2b (s := sStr "copy") (t := sNat b) (e_var rfl)) fun w7 l7 ow7 o7 => ?_
      refine hN σ5 w7 _ o7 (fun o => (o.drop 8).drop 9) ⟨_, ?_, ?_, ow7⟩ (fun a u z => l7.g a u (l6.g a u z))
      · rw [back_take hp, hmm]
        rfl
      · rw [List.length_set]
        exact lmm
  obtain ⟨mm, hmm, lmm, ow5⟩ := h5
  rw [List.take_length] at hmm
  have hb : backed m.sizes sk e = some mm := hmm
  refine q_for o5 (i_tup (R := sPr) (xs := e.guard) (e_var rfl)) (fun p => b_t2 b_name b_name)
    (fun _ => [some (sDeeds m.deeds), some (sInts m.sizes), some (sNs sk), some (sNat d), some sAny, some (sTup sPr e.guard), some (sTup sChg e.chg), some (sRef l), none, none, none])
    (fun i w6 => Own w0 l (fun n : Nat => sNat n) ((e.guard.take i).foldl (fun (m : List Nat) (p : Nat × Nat) => m.set p.1 (at0 m p.1 &&& p.2)) mm) w6 ∧ ((e.guard.take i).foldl (fun (m : List Nat) (p : Nat × Nat) => m.set p.1 (at0 m p.1 &&& p.2)) mm).length = m.sizes.length)
    (fun _ _ _ h l => ⟨h.1.up l, h.2⟩) (fun w6 l6 o6 => ⟨o6, ow5.up l6, lmm⟩) (fun i p σ6 w6 hp o6 h6 N hN => ?_) (fun σ6 w6 o6 h6 => ?_)
  · obtain ⟨ow6, len6⟩ := h6
    have hc := (hd.gIn p (List.mem_of_getElem? hp)).1
    refine s_put (x := at0 ((e.guard.take i).foldl (fun (m : List Nat) (p : Nat × Nat) => m.set p.1 (at0 m p.1 &&& p.2)) mm) p.1 &&& p.2) o6 ow6 (by rw [len6]; exact hc) (e_and (e_ixOw (R := fun n : Nat => sNat n) (i := p.1) ow6 (at0_some (by rw [len6]; exact hc)) (e_var rfl) (e_var rfl)) (e_var (s := sNat p.2) rfl)) (e_var rfl) (e_var rfl) fun w7 l7 ow7 o7 => ?_
    refine hN σ6 w7 _ o7 (fun o => (o.drop 8).drop 10) ⟨?_, ?_⟩ l7.g
    · rw [guard_take hp]
      exact ow7
    · rw [guard_take hp, List.length_set]
      exact len6
  rw [List.take_length] at h6
  obtain ⟨ow6, len6⟩ := h6
  have eg : e.guard.foldl (fun m p => m.set p.1 (at0 m p.1 &&& p.2)) mm = guarded mm e := rfl
  rw [eg] at ow6 len6
  obtain ⟨w7, e7, l7, g7, o7⟩ := Own.stable (i := 7) ow6 o6 rfl
  rw [← e7]
  refine s_ret o7 (e_if (t_test (e_in0L (l := guarded mm e) (e_n 0 0) (e_var rfl))) (s := sOpt sNs (beforeF m.sizes sk e)) (fun q => ?_) (fun q => ?_)) fun v w8 l8 pv => k v w8 (l7.trans l8) pv
  · have nz : 0 ∈ guarded mm e := of_decide_eq_true q
    have eb : beforeF m.sizes sk e = none := by
      unfold beforeF
      rw [hb]
      exact if_pos nz
    rw [eb]
    exact e_c
  · have nz : ¬ 0 ∈ guarded mm e := of_decide_eq_false q
    have eb : beforeF m.sizes sk e = some (guarded mm e) := by
      unfold beforeF
      rw [hb]
      exact if_neg nz
    rw [eb]
    exact e_tupL (R := fun n : Nat => sNat n) (e_var rfl)
/-! ### what is asked of a paper: it is so -/
theorem tup_ty {α : Type} {R : α → Slot} {xs : List α} (w : Wd) (v : V) (h : (sTup R xs).P w.G v) : TyX K w.H v (.type "tuple") := by
  obtain ⟨a, vs, e, h, _⟩ := h
  rw [e]
  exact .base (.tup (w.sub _ _ h))
theorem e_isTup {Γ : Env} {w : Wd} {ta : TE} {α : Type} {R : α → Slot} {xs : List α} (ha : E ta Γ w (sTup R xs)) : E (tCB (rIsi K) (tCons ta (tCons (tC (.ty "tuple")) tNil))) Γ w (sBl true) :=
  e_isi (s := sTup R xs) (.type "tuple") tup_ty isi_tuple ha
abbrev spLCovers : Sp := spP (fun x : List (List Nat) × List Nat × List (List Nat) => Cov x.1 x.2.1 x.2.2) (fun x => [sSks x.1, sNs x.2.1, sPiece x.2.2]) (fun _ => sBl true)
theorem ok__law_covers (T : Txt K mg) : Ok__law_covers P w K mg base spLCovers := by
  refine okP T.f__law_covers sc__law_covers (fun _ => rfl) fun cdv A outer s H E hr => ⟨_, (pss_cons (ps_if (PW.pt (pw_or (pt_not (pt_val (pe_callB call_isi (by rfl) T.n_isinstance (by decide +kernel) (pa_cons (pv 1) (pa_cons (pe_bltn (v := .ty "tuple") (by rfl) T.n_tuple boot_tuple rfl) pa_nil))))) (pw_or1 (pt_cmpR op_ne (pe_callB call_len_seq (by rfl) T.n_len boot_len (pa_cons (pv 1) pa_nil)) (pe_callB call_len_seq (by rfl) T.n_len boot_len (pa_cons (pv 2) pa_nil)) (nomark _))))) (pss_one (ps_ret pe_bl)) pss_nil) (pss_cons (ps_for PassesOwn.never rfl (pi_zipTL (by rfl) T.n_zip (pa_cons (pv 1) (pa_cons (pv 2) pa_nil))) (pg_tup rfl (pgs_cons (pg_name (i := 3) sc__law_covers.nd rfl (Or.inl rfl)) (pgs_cons (pg_name (i := 4) sc__law_covers.nd rfl (Or.inl rfl)) pgs_nil))) (pss_one (ps_if (PW.pt (pw_or (pt_not (pt_val (pe_call (ok__law_is_int T) (hr.mono (by decide)) rfl T.g__law_is_int T.f__law_is_int.kp T.b__law_is_int .nil pass0 (pa_cons (pv 3) pa_nil)))) (pw_or (pt_not (pt_chain op_le op_lt pe_int (pv 3) (pe_callB call_len_seq (by rfl) T.n_len boot_len (pa_cons (pv 0) pa_nil)))) (pw_or1 (pt_not (pt_val (pe_call (ok__law_included T) (hr.mono (by decide)) rfl T.g__law_included T.f__law_included.kp T.b__law_included .nil pass0 (pa_cons (pv 4) (pa_cons (pe_ix ix_tup (pv 0) (pv 3) (fun _ _ => rfl)) pa_nil))))))))) (pss_one (ps_ret pe_bl)) pss_nil))) (pss_one (ps_ret pe_bl)))), ?_⟩
  rintro ⟨sks, en, parts⟩ w0 σ Q hc o k
  have hc : Cov sks en parts := hc
  have o : EnvOk w0.G σ [some (sSks sks), some (sNs en), some (sPiece parts), none, none] := o
  refine q_skip o (t_or (t_not (t_B (e_isTup (R := fun n : Nat => sNat n) (e_var rfl)))) fun _ => t_neN (e_lenT (R := fun n : Nat => sNat n) (e_var rfl)) (e_lenL (R := sNs) (e_var rfl))) (by rw [hc.len, bne_self_eq_false]; rfl) fun w1 l1 o1 => ?_
  refine q_for o1 (i_zipTL (R := fun n : Nat => sNat n) (S := sNs) (xs := en) (ys := parts) hc.len (e_var rfl) (e_var rfl)) (fun _ => b_t2 b_name b_name) (fun _ => [some (sSks sks), some (sNs en), some (sPiece parts), none, none]) (fun _ u => Le w0 u) (fun _ _ _ h l => h.trans l) (fun u lu ou => ⟨ou, l1.trans lu⟩)
    (fun i p σ2 u hp o2 l2 N hN => ?_) (fun σ2 u o2 l2 => s_ret o2 e_c fun v w3 l3 p => k v w3 (l2.trans l3) p)
  obtain ⟨z1, z2⟩ := zip_at hp
  obtain ⟨s2, hs2, hinc⟩ := hc.at_ i p.1 p.2 z1 z2
  have hlt : p.1 < sks.length := (List.getElem?_eq_some_iff.mp hs2).1
  have o2 : EnvOk u.G σ2 [some (sSks sks), some (sNs en), some (sPiece parts), some (sNat p.1), some (sNs p.2)] := o2
  refine s_if o2 (t_is (b := false) (t_or (t_not (t_B (e_call (p.1 : Int) trivial (ea_cons (e_var rfl) ea_nil)))) fun _ => t_or (t_not (t_test (e_chain (g := fun i j => decide (i ≤ j)) (g' := fun i j => decide (i < j)) (i := 0) (j := (p.1 : Int)) (k := (sks.length : Int)) e_c (e_var rfl) fun _ => e_lenT (R := sNs) (e_var rfl)))) fun _ =>
    t_not (t_B (e_call (p.2, s2) trivial (ea_cons (e_var rfl) (ea_cons (e_ixT (R := sNs) (i := p.1) hs2 (e_var rfl) (e_var rfl)) ea_nil))))) ?_) (fun q => nomatch q) (fun _ u3 l3 o3 => ?_)
  · show (!true || (!(decide ((0 : Int) ≤ (p.1 : Int)) && decide ((p.1 : Int) < (sks.length : Int))) || !incF p.2 s2)) = false
    rw [hinc, decide_eq_true (by omega), decide_eq_true (by omega)]
    rfl
  · exact hN σ2 u3 _ o3 (fun o => (o.drop 3).drop 4) (l2.trans l3) l3.g
abbrev spLAreSk : Sp := spP (fun x : List (List Nat) × List Nat => SzOk x.2 ∧ ∀ s ∈ x.1, OkSk x.2 s) (fun x => [sSks x.1, sInts x.2]) (fun _ => sBl true)
theorem ok__law_are_sketches (T : Txt K mg) : Ok__law_are_sketches P w K mg base spLAreSk := by
  refine okP T.f__law_are_sketches sc__law_are_sketches (fun _ => rfl) fun cdv A outer s H E hr => ⟨_, (pss_cons (ps_if (pt_not (pt_val (pe_callB call_isi (by rfl) T.n_isinstance (by decide +kernel) (pa_cons (pv 0) (pa_cons (pe_bltn (v := .ty "tuple") (by rfl) T.n_tuple boot_tuple rfl) pa_nil))))) (pss_one (ps_ret pe_bl)) pss_nil) (pss_cons (ps_for PassesOwn.never rfl (pi_tup (pv 0)) (pg_name (i := 2) sc__law_are_sketches.nd rfl (Or.inl rfl)) (pss_cons (ps_if (PW.pt (pw_or (pt_not (pt_val (pe_callB call_isi (by rfl) T.n_isinstance (by decide +kernel) (pa_cons (pv 2) (pa_cons (pe_bltn (v := .ty "tuple") (by rfl) T.n_tuple boot_tuple rfl) pa_nil))))) (pw_or1 (pt_cmpR op_ne (pe_callB call_len_seq (by rfl) T.n_len boot_len (pa_cons (pv 2) pa_nil)) (pe_callB call_len_seq (by rfl) T.n_len boot_len (pa_cons (pv 1) pa_nil)) (nomark _))))) (pss_one (ps_ret pe_bl)) pss_nil) (pss_one (ps_for PassesOwn.never rfl (pi_zipTL (by rfl) T.n_zip (pa_cons (pv 2) (pa_cons (pv 1) pa_nil))) (pg_tup rfl (pgs_cons (pg_name (i := 3) sc__law_are_sketches.nd rfl (Or.inl rfl)) (pgs_cons (pg_name (i := 4) sc__law_are_sketches.nd rfl (Or.inl rfl)) pgs_nil))) (pss_one (ps_if (PW.pt (pw_or (pt_not (pt_val (pe_call (ok__law_is_int T) (hr.mono (by decide)) rfl T.g__law_is_int T.f__law_is_int.kp T.b__law_is_int .nil pass0 (pa_cons (pv 3) pa_nil)))) (pw_or (pt_cmpR op_lt (pv 3) pe_int (nomark _)) (pw_or1 (pt_cmpR op_ge (pv 3) (pe_op op_shl pe_int (pv 4)) (nomark _)))))) (pss_one (ps_ret pe_bl)) pss_nil)))))) (pss_one (ps_ret pe_bl)))), ?_⟩
  rintro ⟨sks, z⟩ w0 σ Q ⟨hz, hs⟩ o k
  have hz : SzOk z := hz
  have hs : ∀ s ∈ sks, OkSk z s := hs
  have o : EnvOk w0.G σ [some (sSks sks), some (sInts z), none, none, none] := o
  refine q_skip o (t_not (t_B (e_isTup (R := sNs) (e_var rfl)))) rfl fun w1 l1 o1 => ?_
  refine q_for o1 (i_tup (R := sNs) (xs := sks) (e_var rfl)) (fun _ => b_name) (fun _ => [some (sSks sks), some (sInts z), none, none, none]) (fun _ u => Le w0 u) (fun _ _ _ h l => h.trans l) (fun u lu ou => ⟨ou, l1.trans lu⟩)
    (fun i s σ2 u hp o2 l2 N hN => ?_) (fun σ2 u o2 l2 => s_ret o2 e_c fun v w3 l3 p => k v w3 (l2.trans l3) p)
  have hsk := hs s (List.mem_of_getElem? hp)
  have o2 : EnvOk u.G σ2 [some (sSks sks), some (sInts z), some (sNs s), none, none] := o2
  refine q_skip o2 (t_or (t_not (t_B (e_isTup (R := fun n : Nat => sNat n) (e_var rfl)))) fun _ => t_neN (e_lenT (R := fun n : Nat => sNat n) (e_var rfl)) (e_lenL (R := fun n : Nat => sNat n) (e_var rfl))) (by rw [hsk.1, bne_self_eq_false]; rfl) fun u1 l3 o3 => ?_
  refine s_for o3 (i_zipTL (R := fun n : Nat => sNat n) (S := fun n : Nat => sNat n) (xs := s) (ys := z) hsk.1 (e_var rfl) (e_var rfl)) (fun _ => b_t2 b_name b_name) (fun _ => [some (sSks sks), some (sInts z), some (sNs s), none, none]) (fun _ u2 => Le w0 u2 ∧ Gx u u2) (fun _ _ _ h l => ⟨h.1.trans l, fun a o q => l.g a o (h.2 a o q)⟩) (fun u2 lu ou => ⟨ou, l2.trans (l3.trans lu), fun a o q => lu.g a o (l3.g a o q)⟩)
    (fun j p σ3 u2 hp2 o4 h4 N2 hN2 => ?_) (fun σ3 u2 o4 h4 => hN σ3 u2 _ o4 (fun o => o.drop 2) h4.1 h4.2)
  obtain ⟨z1, z2⟩ := zip_at hp2
  have hj : j < z.length := (List.getElem?_eq_some_iff.mp z2).1
  have b1 := hsk.2 j hj
  have b2 := hz.size j hj
  rw [at0_of z1, at0_of z2] at b1
  rw [at0_of z2] at b2
  have o4 : EnvOk u2.G σ3 [some (sSks sks), some (sInts z), some (sNs s), some (sNat p.1), some (sNat p.2)] := o4
  refine s_if o4 (t_is (b := false) (t_or (t_not (t_B (e_call (p.1 : Int) trivial (ea_cons (e_var rfl) ea_nil)))) fun _ => t_or (t_ltN (a := p.1) (b := 1) (e_var rfl) (e_n 1 1)) fun _ => t_geN (a := p.1) (b := 1 <<< p.2) (e_var rfl) (e_shl (a := 1) (by decide) (by omega) (e_n 1 1) (e_var rfl))) ?_) (fun q => nomatch q) (fun _ u3 l5 o5 => ?_)
  · rw [Nat.shiftLeft_eq, Nat.one_mul, decide_eq_false (by omega), decide_eq_false (by omega)]
    rfl
  · exact hN2 σ3 u3 _ o5 (fun o => (o.drop 3).drop 4) ⟨h4.1.trans l5, fun a o q => l5.g a o (h4.2 a o q)⟩ l5.g
end
end R40

set_option linter.all false
set_option maxHeartbeats 4000000
/-! What sketches mean: splitting, going back, ways; searching breadth first finds all. -/
namespace M40
/-! ### splitting -/
theorem split_iff {a b d : List Nat} (hb : b.length = a.length) (hd : d.length = a.length) : (∃ p ∈ splitF a b, inF p d = true) ↔ inF a d = true ∧ inF b d = false := by
  have nb : inF b d = false ↔ ∃ i, i < b.length ∧ (at0 b i).testBit (at0 d i) = false := by
    constructor
    · intro h
      refine Classical.byContradiction fun hn => ?_
      have : inF b d = true := (in_iff (by omega)).mpr fun i hi => by
        cases e : (at0 b i).testBit (at0 d i) with
        | true => rfl
        | false => exact absurd ⟨i, hi, e⟩ hn
      rw [h] at this
      cases this
    · rintro ⟨i, hi, e⟩
      cases h : inF b d with
      | false => rfl
      | true =>
        have := (in_iff (by omega)).mp h i hi
        rw [e] at this
        cases this
  cases hm : meetF a b with
  | none =>
    have es : splitF a b = [a] := by unfold splitF; rw [hm]
    rw [es]
    obtain ⟨i, hi, e0⟩ := mem_at0.mp (meet_none hm)
    rw [List.length_zipWith] at hi
    rw [at0_zw (by omega) (by omega)] at e0
    constructor
    · rintro ⟨p, hp, h⟩
      rw [List.mem_singleton.mp hp] at h
      refine ⟨h, nb.mpr ⟨i, by omega, ?_⟩⟩
      have h1 := (in_iff (by omega)).mp h i (by omega)
      have h2 := congrArg (fun n => Nat.testBit n (at0 d i)) e0
      simp only [Nat.testBit_and, Nat.zero_testBit, h1, Bool.true_and] at h2
      exact h2
    · rintro ⟨h, _⟩
      exact ⟨a, List.mem_singleton.mpr rfl, h⟩
  | some c =>
    have lc := meet_length hb hm
    have ec : ∀ i, i < a.length → at0 c i = at0 a i &&& at0 b i := fun i hi => by
      rw [(meet_some hm).1, at0_zw hi (by omega)]
    have es : splitF a b = ((List.range a.length).filter fun k => at0 a k ^^^ at0 c k != 0).map (splitPart a c) := by unfold splitF; rw [hm]
    constructor
    · rintro ⟨p, hp, h⟩
      rw [es] at hp
      obtain ⟨k, hk, rfl⟩ := List.mem_map.mp hp
      have hk : k < a.length := List.mem_range.mp (List.mem_filter.mp hk).1
      have hp2 := (in_iff (by rw [part_len lc hk, hd])).mp h
      rw [part_len lc hk] at hp2
      have bits : ∀ i, i < a.length → (at0 a i).testBit (at0 d i) = true ∧ (i = k → (at0 b i).testBit (at0 d i) = false) := fun i hi => by
        have q := hp2 i hi
        rw [part_at lc hk hi] at q
        split at q
        · rename_i h1
          rw [ec i hi, Nat.testBit_and, Bool.and_eq_true] at q
          exact ⟨q.1, fun e => by omega⟩
        · split at q
          · rename_i h1 h2
            subst h2
            rw [ec i hi, Nat.testBit_xor, Nat.testBit_and] at q
            cases ha : (at0 a i).testBit (at0 d i) <;> cases hb2 : (at0 b i).testBit (at0 d i) <;> rw [ha, hb2] at q <;> simp at q
            exact ⟨rfl, fun _ => rfl⟩
          · rename_i h1 h2
            exact ⟨q, fun e => absurd e h2⟩
      exact ⟨(in_iff (by omega)).mpr fun i hi => (bits i hi).1, nb.mpr ⟨k, by omega, (bits k hk).2 rfl⟩⟩
    · rintro ⟨h1, h2⟩
      obtain ⟨i0, hi0, e0⟩ := nb.mp h2
      -- the first cell that leaves b
      have hex : ∃ k, k < a.length ∧ (at0 b k).testBit (at0 d k) = false ∧ ∀ i, i < k → (at0 b i).testBit (at0 d i) = true := by
        have : ∀ n, n < a.length → (at0 b n).testBit (at0 d n) = false → ∃ k, k < a.length ∧ (at0 b k).testBit (at0 d k) = false ∧ ∀ i, i < k → (at0 b i).testBit (at0 d i) = true := by
          intro n
          induction n using Nat.strongRecOn with
          | _ n ih =>
            intro hn hf
            by_cases hall : ∀ i, i < n → (at0 b i).testBit (at0 d i) = true
            · exact ⟨n, hn, hf, hall⟩
            · obtain ⟨j, hj⟩ := Classical.not_forall.mp hall
              obtain ⟨hj1, hj2⟩ := Classical.not_imp.mp hj
              exact ih j hj1 (by omega) (by simpa using hj2)
        exact this i0 (by omega) e0
      obtain ⟨k, hk, hf, hall⟩ := hex
      have ha := (in_iff (by omega)).mp h1
      have hx : (at0 a k ^^^ at0 c k).testBit (at0 d k) = true := by rw [ec k hk, Nat.testBit_xor, Nat.testBit_and, ha k hk, hf]; rfl
      refine ⟨splitPart a c k, ?_, (in_iff (by rw [part_len lc hk, hd])).mpr fun i hi => ?_⟩
      · rw [es]
        refine List.mem_map.mpr ⟨k, List.mem_filter.mpr ⟨List.mem_range.mpr hk, ?_⟩, rfl⟩
        rw [bne_iff_ne]
        intro e
        rw [e, Nat.zero_testBit] at hx
        cases hx
      · rw [part_len lc hk] at hi
        rw [part_at lc hk hi]
        split
        · rename_i hlt
          rw [ec i hi, Nat.testBit_and, ha i hi, hall i hlt]
          rfl
        · split
          · rename_i h3
            subst h3
            exact hx
          · exact ha i hi
theorem parts_iff {d : List Nat} {n : Nat} (hd : d.length = n) : ∀ (piece parts : List (List Nat)), (∀ s ∈ piece, s.length = n) → (∀ s ∈ parts, s.length = n) →
    ((∃ p ∈ piece.foldl (fun parts s => parts.flatMap fun o => splitF o s) parts, inF p d = true) ↔ (∃ p ∈ parts, inF p d = true) ∧ ∀ s ∈ piece, inF s d = false)
  | [], parts, _, _ => ⟨fun h => ⟨h, fun s hs => (nomatch hs)⟩, fun h => h.1⟩
  | q :: r, parts, hp, hs => by
    have hq := hp q List.mem_cons_self
    have hl : ∀ s ∈ parts.flatMap (fun o => splitF o q), s.length = n := fun s h => by
      obtain ⟨o, ho, hs2⟩ := List.mem_flatMap.mp h
      rcases split_mem hs2 with ⟨_, rfl⟩ | ⟨c, k, hc, hk, _, rfl⟩
      · exact hs s ho
      · rw [part_len (meet_length (by rw [hq, hs o ho]) hc) hk, hs o ho]
    rw [List.foldl_cons, parts_iff hd r _ (fun s h => hp s (List.mem_cons_of_mem _ h)) hl]
    constructor
    · rintro ⟨⟨p, hp1, hp2⟩, h2⟩
      obtain ⟨o, ho, hs2⟩ := List.mem_flatMap.mp hp1
      obtain ⟨h3, h4⟩ := (split_iff (by rw [hq, hs o ho]) (by rw [hd, hs o ho])).mp ⟨p, hs2, hp2⟩
      refine ⟨⟨o, ho, h3⟩, fun s h => ?_⟩
      rcases List.mem_cons.mp h with rfl | h
      · exact h4
      · exact h2 s h
    · rintro ⟨⟨o, ho, h1⟩, h2⟩
      obtain ⟨p, hp1, hp2⟩ := (split_iff (a := o) (b := q) (d := d) (by rw [hq, hs o ho]) (by rw [hd, hs o ho])).mpr ⟨h1, h2 q List.mem_cons_self⟩
      exact ⟨⟨p, List.mem_flatMap.mpr ⟨o, ho, hp1⟩, hp2⟩, fun s h => h2 s (List.mem_cons_of_mem _ h)⟩
theorem has_false {piece : List (List Nat)} {d : List Nat} : hasF piece d = false ↔ ∀ s ∈ piece, inF s d = false := by
  unfold hasF
  rw [List.any_eq_false]
  constructor
  · intro h s hs
    cases e : inF s d with
    | false => rfl
    | true => exact absurd e (h s hs)
  · intro h s hs e
    rw [h s hs] at e
    cases e
theorem without_iff {a d : List Nat} {piece : List (List Nat)} (hp : ∀ s ∈ piece, s.length = a.length) (hd : d.length = a.length) : (∃ p ∈ withoutF a piece, inF p d = true) ↔ inF a d = true ∧ hasF piece d = false := by
  have h := parts_iff (d := d) hd piece [a] hp (fun s h => by rw [List.mem_singleton.mp h])
  have e : withoutF a piece = piece.foldl (fun parts s => parts.flatMap fun o => splitF o s) [a] := rfl
  rw [e, h, has_false]
  constructor
  · rintro ⟨⟨p, hp1, hp2⟩, h2⟩
    rw [List.mem_singleton.mp hp1] at hp2
    exact ⟨hp2, h2⟩
  · rintro ⟨h1, h2⟩
    exact ⟨⟨a, List.mem_singleton.mpr rfl, h1⟩, h2⟩
theorem inc_in {a b d : List Nat} (hb : b.length = a.length) (hd : d.length = a.length) (h : incF a b = true) (ha : inF a d = true) : inF b d = true := by
  refine (in_iff (by omega)).mpr fun i hi => ?_
  have h1 := (in_iff (by omega)).mp ha i (by omega)
  unfold incF at h
  rw [List.all_eq_true] at h
  have h2 := h (at0 a i, at0 b i) (List.mem_iff_getElem?.mpr ⟨i, List.getElem?_zip_eq_some.mpr ⟨at0_some (by omega), at0_some (by omega)⟩⟩)
  have h2 : at0 a i &&& at0 b i = at0 a i := by simpa using h2
  rw [← h2, Nat.testBit_and, Bool.and_eq_true] at h1
  exact h1.2
theorem meet_in {a b c d : List Nat} (hb : b.length = a.length) (hd : d.length = a.length) (h : meetF a b = some c) : inF c d = true ↔ inF a d = true ∧ inF b d = true := by
  have lc := meet_length hb h
  have ec : ∀ i, i < a.length → at0 c i = at0 a i &&& at0 b i := fun i hi => by rw [(meet_some h).1, at0_zw hi (by omega)]
  rw [in_iff (by omega), in_iff (by omega), in_iff (by omega)]
  constructor
  · intro k
    refine ⟨fun i hi => ?_, fun i hi => ?_⟩
    · have := k i (by omega)
      rw [ec i hi, Nat.testBit_and, Bool.and_eq_true] at this
      exact this.1
    · have := k i (by omega)
      rw [ec i (by omega), Nat.testBit_and, Bool.and_eq_true] at this
      exact this.2
  · rintro ⟨k1, k2⟩ i hi
    rw [ec i (by omega), Nat.testBit_and, k1 i (by omega), k2 i (by omega)]
    rfl
theorem meet_both {a b d : List Nat} (hb : b.length = a.length) (hd : d.length = a.length) (h1 : inF a d = true) (h2 : inF b d = true) : ∃ c, meetF a b = some c := by
  cases e : meetF a b with
  | some c => exact ⟨c, rfl⟩
  | none =>
    obtain ⟨i, hi, e0⟩ := mem_at0.mp (meet_none e)
    rw [List.length_zipWith] at hi
    rw [at0_zw (by omega) (by omega)] at e0
    have k1 := (in_iff (by omega)).mp h1 i (by omega)
    have k2 := (in_iff (by omega)).mp h2 i (by omega)
    have k3 := congrArg (fun n => Nat.testBit n (at0 d i)) e0
    simp only [Nat.testBit_and, Nat.zero_testBit, k1, k2] at k3
    cases k3
/-! ### going back -/
theorem back_bits {s : List Nat} : ∀ (l : List (Nat × Src)) (m m' : List Nat), l.foldl (backStep s) (some m) = some m' → (∀ c v, (c, Src.put v) ∈ l → (at0 s c).testBit v = true) ∧ m'.length = m.length ∧ ∀ i v, i < m.length → ((at0 m' i).testBit v = true ↔ (at0 m i).testBit v = true ∧ ∀ c, (c, Src.copy i) ∈ l → (at0 s c).testBit v = true)
  | [], m, m', h => by
    cases h
    exact ⟨fun c v h => (nomatch h), rfl, fun i v _ => ⟨fun h => ⟨h, fun c h => (nomatch h)⟩, fun h => h.1⟩⟩
  | (c0, .put v0) :: r, m, m', h => by
    rw [List.foldl_cons] at h
    have eb : backStep s (some m) (c0, .put v0) = if (at0 s c0).testBit v0 then some m else none := rfl
    rw [eb] at h
    split at h
    · rename_i hb
      obtain ⟨h1, h2, h3⟩ := back_bits r m m' h
      refine ⟨fun c v hc => ?_, h2, fun i v hi => ?_⟩
      · rcases List.mem_cons.mp hc with e | hc
        · cases e
          exact hb
        · exact h1 c v hc
      · rw [h3 i v hi]
        constructor
        · rintro ⟨a, b⟩
          refine ⟨a, fun c hc => ?_⟩
          rcases List.mem_cons.mp hc with e | hc
          · cases e
          · exact b c hc
        · rintro ⟨a, b⟩
          exact ⟨a, fun c hc => b c (List.mem_cons_of_mem _ hc)⟩
    · rw [back_none'] at h
      cases h
  | (c0, .copy o) :: r, m, m', h => by
    obtain ⟨h1, h2, h3⟩ := back_bits r (m.set o (at0 m o &&& at0 s c0)) m' h
    rw [List.length_set] at h2 h3
    refine ⟨fun c v hc => ?_, h2, fun i v hi => ?_⟩
    · rcases List.mem_cons.mp hc with e | hc
      · cases e
      · exact h1 c v hc
    · rw [h3 i v hi, at0_set]
      by_cases e : o = i
      · subst e
        rw [if_pos ⟨rfl, hi⟩, Nat.testBit_and, Bool.and_eq_true]
        constructor
        · rintro ⟨⟨a, b⟩, k⟩
          refine ⟨a, fun c hc => ?_⟩
          rcases List.mem_cons.mp hc with e | hc
          · cases e
            exact b
          · exact k c hc
        · rintro ⟨a, k⟩
          exact ⟨⟨a, k c0 List.mem_cons_self⟩, fun c hc => k c (List.mem_cons_of_mem _ hc)⟩
      · rw [if_neg fun h => e h.1]
        constructor
        · rintro ⟨a, k⟩
          refine ⟨a, fun c hc => ?_⟩
          rcases List.mem_cons.mp hc with e2 | hc
          · cases e2
            exact absurd rfl e
          · exact k c hc
        · rintro ⟨a, k⟩
          exact ⟨a, fun c hc => k c (List.mem_cons_of_mem _ hc)⟩
theorem back_some {s : List Nat} : ∀ (l : List (Nat × Src)) (m : List Nat), (∀ c v, (c, Src.put v) ∈ l → (at0 s c).testBit v = true) → ∃ m', l.foldl (backStep s) (some m) = some m'
  | [], m, _ => ⟨m, rfl⟩
  | (c0, .put v0) :: r, m, h => by
    have eb : backStep s (some m) (c0, .put v0) = if (at0 s c0).testBit v0 then some m else none := rfl
    rw [List.foldl_cons, eb, if_pos (h c0 v0 List.mem_cons_self)]
    exact back_some r m fun c v hc => h c v (List.mem_cons_of_mem _ hc)
  | (c0, .copy o) :: r, m, h => back_some r _ fun c v hc => h c v (List.mem_cons_of_mem _ hc)
theorem freed_at {z : List Nat} : ∀ (l : List (Nat × Src)) (m : List Nat) (i : Nat), i < m.length → at0 (l.foldl (fun m p => m.set p.1 (2 ^ at0 z p.1 - 1)) m) i = if i ∈ l.map (·.1) then 2 ^ at0 z i - 1 else at0 m i
  | [], m, i, _ => rfl
  | p :: r, m, i, hi => by
    rw [List.foldl_cons, freed_at r _ i (by rw [List.length_set]; exact hi), at0_set, List.map_cons]
    by_cases h1 : i ∈ r.map (·.1)
    · rw [if_pos h1, if_pos (List.mem_cons_of_mem _ h1)]
    · rw [if_neg h1]
      by_cases h2 : p.1 = i
      · rw [if_pos ⟨h2, hi⟩, if_pos (by rw [← h2]; exact List.mem_cons_self), h2]
      · rw [if_neg fun h => h2 h.1, if_neg fun h => (List.mem_cons.mp h).elim (fun e => h2 e.symm) h1]
theorem guard_bits : ∀ (l : List (Nat × Nat)) (m : List Nat) (i v : Nat), i < m.length → ((at0 (l.foldl (fun m p => m.set p.1 (at0 m p.1 &&& p.2)) m) i).testBit v = true ↔ (at0 m i).testBit v = true ∧ ∀ k, (i, k) ∈ l → k.testBit v = true)
  | [], m, i, v, _ => ⟨fun h => ⟨h, fun k h => (nomatch h)⟩, fun h => h.1⟩
  | p :: r, m, i, v, hi => by
    rw [List.foldl_cons, guard_bits r _ i v (by rw [List.length_set]; exact hi), at0_set]
    by_cases e : p.1 = i
    · rw [if_pos ⟨e, hi⟩, Nat.testBit_and, Bool.and_eq_true, e]
      constructor
      · rintro ⟨⟨a, b⟩, k⟩
        refine ⟨a, fun x hx => ?_⟩
        rcases List.mem_cons.mp hx with e2 | hx
        · rw [← e2] at b
          exact b
        · exact k x hx
      · rintro ⟨a, k⟩
        exact ⟨⟨a, k p.2 (by rw [← e]; exact List.mem_cons_self)⟩, fun x hx => k x (List.mem_cons_of_mem _ hx)⟩
    · rw [if_neg fun h => e h.1]
      constructor
      · rintro ⟨a, k⟩
        refine ⟨a, fun x hx => ?_⟩
        rcases List.mem_cons.mp hx with e2 | hx
        · rw [← e2] at e
          exact absurd rfl e
        · exact k x hx
      · rintro ⟨a, k⟩
        exact ⟨a, fun x hx => k x (List.mem_cons_of_mem _ hx)⟩
theorem full_bit {z v : Nat} (h : v < z) : (2 ^ z - 1).testBit v = true := by
  rw [Nat.testBit_two_pow_sub_one]
  exact decide_eq_true h
theorem can_iff {d : List Nat} {e : Deed} : canF d e = true ↔ ∀ i k, (i, k) ∈ e.guard → k.testBit (at0 d i) = true := by
  unfold canF
  rw [List.all_eq_true]
  exact ⟨fun h i k hk => h (i, k) hk, fun h p hp => h p.1 p.2 hp⟩
theorem before_iff {z s d : List Nat} {e : Deed} (he : OkDeed z e) (hs : s.length = z.length) (hd : OkDk z d) : (∃ b, beforeF z s e = some b ∧ inF b d = true) ↔ canF d e = true ∧ inF s (afterF d e) = true := by
  have la : (afterF d e).length = z.length := by rw [after_len, hd.1]
  have lf : (freed z s e).length = z.length := by rw [freed_len, hs]
  have key : ∀ m, backed z s e = some m → (inF (guarded m e) d = true ↔ canF d e = true ∧ inF s (afterF d e) = true) := fun m hm => by
    obtain ⟨h1, h2, h3⟩ := back_bits e.chg (freed z s e) m hm
    rw [lf] at h2 h3
    rw [in_iff (by rw [guarded_len, h2, hd.1]), in_iff (by rw [hs, la]), can_iff]
    have bits : ∀ i, i < z.length → ((at0 (guarded m e) i).testBit (at0 d i) = true ↔ ((i ∈ e.chg.map (·.1) ∨ (at0 s i).testBit (at0 d i) = true) ∧ ∀ c, (c, Src.copy i) ∈ e.chg → (at0 s c).testBit (at0 d i) = true) ∧ ∀ k, (i, k) ∈ e.guard → k.testBit (at0 d i) = true) := fun i hi => by
      have e1 : (at0 (guarded m e) i).testBit (at0 d i) = true ↔ _ := guard_bits e.guard m i (at0 d i) (by rw [h2]; exact hi)
      rw [e1, h3 i (at0 d i) hi]
      have e2 : (at0 (freed z s e) i).testBit (at0 d i) = true ↔ (i ∈ e.chg.map (·.1) ∨ (at0 s i).testBit (at0 d i) = true) := by
        have e3 : at0 (freed z s e) i = _ := freed_at e.chg s i (by rw [hs]; exact hi)
        rw [e3]
        split
        · rename_i hm
          exact ⟨fun _ => .inl hm, fun _ => full_bit (hd.2 i hi)⟩
        · rename_i hm
          exact ⟨fun h => .inr h, fun h => h.elim (fun h => absurd h hm) id⟩
      rw [e2]
    rw [guarded_len, h2, hs]
    constructor
    · intro k
      refine ⟨fun i x hx => ((bits i (he.gIn _ hx).1).mp (k i (he.gIn _ hx).1)).2 x hx, fun i hi => ?_⟩
      by_cases hm2 : i ∈ e.chg.map (·.1)
      · obtain ⟨p, hp, rfl⟩ := List.mem_map.mp hm2
        rw [after_in he hd.1 hp]
        obtain ⟨c, r⟩ := p
        cases r with
        | put v => exact h1 c v hp
        | copy o =>
          have ho := (he.cIn _ hp).2
          have ho : o < z.length ∧ _ := ho
          exact ((bits o ho.1).mp (k o ho.1)).1.2 c hp
      · rw [after_out he hd.1 hm2]
        exact ((bits i hi).mp (k i hi)).1.1.elim (fun h => absurd h hm2) id
    · rintro ⟨k1, k2⟩ i hi
      refine (bits i hi).mpr ⟨⟨?_, fun c hc => ?_⟩, fun x hx => k1 i x hx⟩
      · by_cases hm2 : i ∈ e.chg.map (·.1)
        · exact .inl hm2
        · have := k2 i hi
          rw [after_out he hd.1 hm2] at this
          exact .inr this
      · have := k2 c (he.cIn _ hc).1
        rw [after_in he hd.1 hc] at this
        exact this
  constructor
  · rintro ⟨b, hb, hin⟩
    obtain ⟨m, hm, rfl, _⟩ := before_some hb
    exact (key m hm).mp hin
  · rintro h
    obtain ⟨m, hm⟩ : ∃ m, backed z s e = some m := back_some e.chg _ fun c v hc => by
      have hci := (he.cIn _ hc).1
      have := (in_iff (by rw [hs, la])).mp h.2 c (by rw [hs]; exact hci)
      rw [after_in he hd.1 hc] at this
      exact this
    have hin := (key m hm).mpr h
    have lm : (guarded m e).length = z.length := by
      obtain ⟨_, h2, _⟩ := back_bits e.chg (freed z s e) m hm
      rw [guarded_len, h2, lf]
    have n0 : ¬ 0 ∈ guarded m e := fun h0 => by
      obtain ⟨i, hi, e0⟩ := mem_at0.mp h0
      have := (in_iff (by rw [lm, hd.1])).mp hin i hi
      rw [e0, Nat.zero_testBit] at this
      cases this
    refine ⟨guarded m e, ?_, hin⟩
    unfold beforeF
    rw [hm]
    exact if_neg n0
/-! ### runs -/
def stepD (deeds : List Deed) (d : List Nat) (n : Nat) : List Nat := match deeds[n]? with
  | some e => afterF d e
  | none => d
def runF (deeds : List Deed) (d ns : List Nat) : List Nat := ns.foldl (stepD deeds) d
structure RunOk (deeds : List Deed) (d ns : List Nat) : Prop where
  at_ : ∀ (i n : Nat), ns[i]? = some n → ∃ e, deeds[n]? = some e ∧ canF (runF deeds d (ns.take i)) e = true
theorem run_succ {deeds : List Deed} {d ns : List Nat} {i n : Nat} {e : Deed} (h : ns[i]? = some n) (he : deeds[n]? = some e) : runF deeds d (ns.take (i + 1)) = afterF (runF deeds d (ns.take i)) e := by
  unfold runF
  rw [List.take_add_one, h, List.foldl_append]
  show stepD deeds _ n = _
  unfold stepD
  rw [he]
theorem run_cons {deeds : List Deed} {d ns : List Nat} {n : Nat} {e : Deed} (he : deeds[n]? = some e) : runF deeds d (n :: ns) = runF deeds (afterF d e) ns := by
  unfold runF
  rw [List.foldl_cons]
  congr 1
  unfold stepD
  rw [he]
theorem run_okd {z : List Nat} {deeds : List Deed} (hd : ∀ e ∈ deeds, OkDeed z e) : ∀ (ns d : List Nat), OkDk z d → OkDk z (runF deeds d ns)
  | [], d, h => h
  | n :: r, d, h => by
    show OkDk z (runF deeds (stepD deeds d n) r)
    refine run_okd hd r _ ?_
    unfold stepD
    split
    · rename_i e he
      exact after_ok (hd e (List.mem_of_getElem? he)) h
    · exact h
theorem runOk_nil {deeds : List Deed} {d : List Nat} : RunOk deeds d [] := ⟨fun i n h => by simp at h⟩
theorem runOk_cons {deeds : List Deed} {d ns : List Nat} {n : Nat} {e : Deed} (he : deeds[n]? = some e) (hc : canF d e = true) (h : RunOk deeds (afterF d e) ns) : RunOk deeds d (n :: ns) := ⟨fun i x hx => by
  cases i with
  | zero =>
    cases hx
    exact ⟨e, he, hc⟩
  | succ i =>
    obtain ⟨e2, h1, h2⟩ := h.at_ i x hx
    refine ⟨e2, h1, ?_⟩
    rw [List.take_succ_cons, run_cons he]
    exact h2⟩
theorem run_append {deeds : List Deed} {d a b : List Nat} : runF deeds d (a ++ b) = runF deeds (runF deeds d a) b := List.foldl_append
theorem runOk_append {deeds : List Deed} {d a b : List Nat} (h1 : RunOk deeds d a) (h2 : RunOk deeds (runF deeds d a) b) : RunOk deeds d (a ++ b) := ⟨fun i n h => by
  by_cases hi : i < a.length
  · rw [List.getElem?_append_left hi] at h
    obtain ⟨e, q1, q2⟩ := h1.at_ i n h
    refine ⟨e, q1, ?_⟩
    rw [List.take_append_of_le_length (Nat.le_of_lt hi)]
    exact q2
  · rw [List.getElem?_append_right (by omega)] at h
    obtain ⟨e, q1, q2⟩ := h2.at_ _ n h
    refine ⟨e, q1, ?_⟩
    rw [List.take_append, List.take_of_length_le (by omega), run_append]
    exact q2⟩
/-- from a disk in a sketch the way leads on -/
theorem way_run {m : Mach} {piece : List (List Nat)} {Rt : Nat → List Nat → Prop} {t : SS} (hm : OkM m) (hp : ∀ q ∈ piece, q.length = m.sizes.length) (hI : SInv m piece Rt t) {n e : Nat} {ds : List Nat} (h : WayF t.org n ds e) :
    ∀ (sn d : List Nat), t.sks[n]? = some sn → OkDk m.sizes d → inF sn d = true → RunOk m.deeds d ds ∧ (∀ k, k ≤ ds.length → ∃ (j : Nat) (sj : List Nat), t.sks[j]? = some sj ∧ inF sj (runF m.deeds d (ds.take k)) = true) ∧ ∃ se, t.sks[e]? = some se ∧ Rt e se ∧ inF se (runF m.deeds d ds) = true := by
  induction h with
  | @done n h =>
    intro sn d hn hd hin
    obtain ⟨s, h1, h2⟩ := hI.root n h
    rw [hn] at h1
    cases h1
    exact ⟨runOk_nil, fun k hk => ⟨n, sn, hn, by rw [List.take_nil]; exact hin⟩, sn, hn, h2, hin⟩
  | @step n d0 j e ds h _ ih =>
    intro sn d hn hd hin
    obtain ⟨_, ee, sj, sn2, b, a1, a2, a3, a4, a5⟩ := hI.src n d0 j h
    rw [hn] at a3
    cases a3
    have okj := hI.st.ok sj (List.mem_of_getElem? a2)
    have oke := hm.deed ee (List.mem_of_getElem? a1)
    have okb := before_ok okj a4
    have hb := (without_iff (a := b) (d := d) (piece := piece) (fun q hq => by rw [hp q hq, okb.1]) (by rw [hd.1, okb.1])).mp ⟨sn, a5, hin⟩
    obtain ⟨hc, hj⟩ := (before_iff oke okj.1 hd).mp ⟨b, a4, hb.1⟩
    obtain ⟨r1, r2, se, r3, r4, r5⟩ := ih sj (afterF d ee) a2 (after_ok oke hd) hj
    refine ⟨runOk_cons a1 hc r1, fun k hk => ?_, se, r3, r4, by rw [run_cons a1]; exact r5⟩
    cases k with
    | zero => exact ⟨n, sn, hn, hin⟩
    | succ k =>
      obtain ⟨j2, s2, q1, q2⟩ := r2 k (by simpa using hk)
      exact ⟨j2, s2, q1, by rw [List.take_succ_cons, run_cons a1]; exact q2⟩
/-! ### breadth first finds what can be reached, nothing else -/
theorem bfs_all {deeds : List Deed} {piece start : List (List Nat)} {Pd : List Nat → Prop} (h0 : ∀ d ∈ start, Pd d) (hs : ∀ d e, e ∈ deeds → Pd d → canF d e = true → hasF piece (afterF d e) = false → Pd (afterF d e)) : ∀ n, ∀ d ∈ bfsF deeds piece start n, Pd d := by
  have hg : ∀ (l : List Deed) (d : List Nat) (ks : List (List Nat)), (∀ e ∈ l, e ∈ deeds) → Pd d → (∀ x ∈ ks, Pd x) → ∀ x ∈ l.foldl (growF piece d) ks, Pd x := by
    intro l d
    induction l with
    | nil => intro ks _ _ h x hx; exact h x hx
    | cons e r ih =>
      intro ks he hd hk
      refine ih _ (fun e' h => he e' (List.mem_cons_of_mem _ h)) hd fun x hx => ?_
      unfold growF at hx
      split at hx
      · rename_i hc
        split at hx
        · rename_i hn
          rcases List.mem_append.mp hx with hx | hx
          · exact hk x hx
          · rw [List.mem_singleton.mp hx]
            exact hs d e (he e List.mem_cons_self) hd hc hn.2
        · exact hk x hx
      · exact hk x hx
  intro n
  induction n with
  | zero => exact h0
  | succ n ih =>
    intro x hx
    rw [bfs_succ] at hx
    unfold turnF at hx
    split at hx
    · exact ih x hx
    · rename_i d hd
      exact hg deeds d _ (fun _ h => h) (ih d (List.mem_of_getElem? hd)) ih x hx
theorem turn_pre {deeds : List Deed} {piece ks : List (List Nat)} {k : Nat} : ∃ r, turnF deeds piece ks k = ks ++ r := by
  unfold turnF
  split
  · exact ⟨[], (List.append_nil _).symm⟩
  · exact grows_pre deeds ks
theorem bfs_pre {deeds : List Deed} {piece start : List (List Nat)} {n : Nat} : ∀ j, ∃ r, bfsF deeds piece start (n + j) = bfsF deeds piece start n ++ r
  | 0 => ⟨[], (List.append_nil _).symm⟩
  | j + 1 => by
    obtain ⟨r1, e1⟩ := bfs_pre (n := n) (deeds := deeds) (piece := piece) (start := start) j
    obtain ⟨r2, e2⟩ := turn_pre (deeds := deeds) (piece := piece) (ks := bfsF deeds piece start (n + j)) (k := n + j)
    exact ⟨r1 ++ r2, by rw [← Nat.add_assoc, bfs_succ, e2, e1, List.append_assoc]⟩
theorem bfs_stop {deeds : List Deed} {piece start : List (List Nat)} {n : Nat} (h : (bfsF deeds piece start n).length ≤ n) : ∀ j, bfsF deeds piece start (n + j) = bfsF deeds piece start n
  | 0 => rfl
  | j + 1 => by
    rw [← Nat.add_assoc, bfs_succ, bfs_stop h j]
    unfold turnF
    rw [List.getElem?_eq_none (by omega)]
/-- what stands at k stands there when its turn comes -/
theorem bfs_turn {deeds : List Deed} {piece start : List (List Nat)} {k n : Nat} {d : List Nat} (hk : k ≤ n) (h : (bfsF deeds piece start n)[k]? = some d) : (bfsF deeds piece start k)[k]? = some d := by
  obtain ⟨j, rfl⟩ := Nat.exists_eq_add_of_le hk
  by_cases hl : (bfsF deeds piece start k).length ≤ k
  · rw [bfs_stop hl j] at h
    exact h
  · obtain ⟨r, e⟩ := bfs_pre (deeds := deeds) (piece := piece) (start := start) (n := k) j
    rw [e, List.getElem?_append_left (by omega)] at h
    exact h
theorem grow_has {d x : List Nat} {piece : List (List Nat)} : ∀ (l : List Deed) (ks : List (List Nat)) (e : Deed), e ∈ l → canF d e = true → hasF piece (afterF d e) = false → afterF d e ∈ l.foldl (growF piece d) ks
  | e0 :: r, ks, e, he, hc, hh => by
    rw [List.foldl_cons]
    rcases List.mem_cons.mp he with rfl | he
    · obtain ⟨r2, e2⟩ := grows_pre (d := d) (piece := piece) r (growF piece d ks e)
      rw [e2]
      refine List.mem_append.mpr (.inl ?_)
      unfold growF
      rw [if_pos hc]
      by_cases hm : afterF d e ∈ ks
      · rw [if_neg fun h => h.1 hm]
        exact hm
      · rw [if_pos ⟨hm, hh⟩]
        exact List.mem_append.mpr (.inr (List.mem_singleton.mpr rfl))
    · exact grow_has (x := x) r _ e he hc hh
theorem bfs_closed {m : Mach} (hm : OkM m) {piece start : List (List Nat)} (hst : KsOk m.sizes start) {d : List Nat} {e : Deed} (hd : d ∈ bfsF m.deeds piece start 5000) (he : e ∈ m.deeds) (hc : canF d e = true) (hh : hasF piece (afterF d e) = false) : afterF d e ∈ bfsF m.deeds piece start 5000 := by
  obtain ⟨k, hk⟩ := List.mem_iff_getElem?.mp hd
  have few := (bfs_ok (piece := piece) hm.deed hst 5000).few hm
  have hk2 : k < 5000 := by have := (List.getElem?_eq_some_iff.mp hk).1; omega
  have h1 := bfs_turn (Nat.le_of_lt hk2) hk
  have h2 : afterF d e ∈ bfsF m.deeds piece start (k + 1) := by
    rw [bfs_succ]
    unfold turnF
    rw [h1]
    exact grow_has (x := d) m.deeds _ e he hc hh
  obtain ⟨j, ej⟩ := Nat.exists_eq_add_of_le (show k + 1 ≤ 5000 by omega)
  obtain ⟨r, er⟩ := bfs_pre (deeds := m.deeds) (piece := piece) (start := start) (n := k + 1) j
  rw [← ej] at er
  rw [er]
  exact List.mem_append.mpr (.inl h2)
theorem bfs_start {deeds : List Deed} {piece start : List (List Nat)} {d : List Nat} (h : d ∈ start) : d ∈ bfsF deeds piece start 5000 := by
  obtain ⟨r, e⟩ := bfs_pre (deeds := deeds) (piece := piece) (start := start) (n := 0) 5000
  rw [Nat.zero_add] at e
  rw [e]
  exact List.mem_append.mpr (.inl h)
theorem bfs_run {m : Mach} (hm : OkM m) {piece start : List (List Nat)} (hst : KsOk m.sizes start) : ∀ (ns d : List Nat), d ∈ bfsF m.deeds piece start 5000 → RunOk m.deeds d ns → (∀ k, k ≤ ns.length → hasF piece (runF m.deeds d (ns.take k)) = false) → runF m.deeds d ns ∈ bfsF m.deeds piece start 5000
  | [], d, hd, _, _ => hd
  | n :: r, d, hd, hr, hc => by
    obtain ⟨e, he, hcan⟩ := hr.at_ 0 n rfl
    have hcan : canF d e = true := hcan
    have h1 := hc 1 (by show 1 ≤ r.length + 1; omega)
    rw [List.take_succ_cons, run_cons he] at h1
    have h1 : hasF piece (afterF d e) = false := h1
    rw [run_cons he]
    refine bfs_run hm hst r _ (bfs_closed hm hst hd (List.mem_of_getElem? he) hcan h1) ⟨fun i x hx => ?_⟩ fun k hk => ?_
    · obtain ⟨e2, q1, q2⟩ := hr.at_ (i + 1) x hx
      rw [List.take_succ_cons, run_cons he] at q2
      exact ⟨e2, q1, q2⟩
    · have := hc (k + 1) (by show k + 1 ≤ r.length + 1; omega)
      rw [List.take_succ_cons, run_cons he] at this
      exact this
end M40

set_option linter.all false
set_option maxHeartbeats 4000000
/-! What is said is so: the paper, the history; told where none is missing. -/
namespace M40
theorem nil_len {n : Nat} : ∀ q ∈ ([] : List (List Nat)), q.length = n := fun q h => (nomatch h)
structure ClosedOk (m : Mach) (piece sks : List (List Nat)) (table : List (List (List Nat))) : Prop where
  len : table.length = sks.length
  row : ∀ (k : Nat) (s : List Nat) (r : List (List Nat)), sks[k]? = some s → table[k]? = some r → RowOk m piece sks s r
structure PaperOk (m : Mach) (earlier later : List Nat) (piece sks : List (List Nat)) (cover : List Nat) (table : List (List (List Nat))) (links roots : List (List Nat)) (steps : List (List (List Nat))) : Prop where
  few : sks.length ≤ 100000 ∧ roots.length ≤ 100000
  sk : ∀ s ∈ sks, OkSk m.sizes s
  rt : ∀ s ∈ roots, OkSk m.sizes s
  away : ∀ s ∈ roots, meetF s m.first = none
  cov : Cov sks cover (withoutF later piece)
  table : ClosedOk m piece sks table
  llen : links.length = sks.length
  link : ∀ (k : Nat) (s entry : List Nat), sks[k]? = some s → links[k]? = some entry → Cov roots entry (metF earlier s)
  steps : ClosedOk m [] roots steps
structure HistOk (m : Mach) (earlier later : List Nat) (piece : List (List Nat)) (disk ds : List Nat) (moment : Nat) : Prop where
  dk : OkDk m.sizes disk
  first : inF m.first disk = true
  run : RunOk m.deeds disk ds
  last : inF later (runF m.deeds disk ds) = true
  mom : moment ≤ ds.length
  earlier : inF earlier (runF m.deeds disk (ds.take moment)) = true
  clean : ∀ k, moment ≤ k → k ≤ ds.length → hasF piece (runF m.deeds disk (ds.take k)) = false
  few : ds.length ≤ 10000
theorem way_few {org : List (Option (Nat × Nat))} {n e : Nat} {ds : List Nat} (hb : ∀ (n d j : Nat), org[n]? = some (some (d, j)) → j < n) (h : WayF org n ds e) : ds.length ≤ n := by
  induction h with
  | done h => exact Nat.zero_le _
  | step q _ ih =>
    have := hb _ _ _ q
    show _ + 1 ≤ _
    omega
section
variable {m : Mach} {earlier later : List Nat} {piece : List (List Nat)}
theorem cover_of (hm : OkM m) (hl : OkSk m.sizes later) (hp : ∀ q ∈ piece, q.length = m.sizes.length) :
    SInv m piece (fun _ s => s ∈ withoutF later piece) (placesF m.first piece SS.none later none).1 ∧ Cov (placesF m.first piece SS.none later none).1.sks (placesF m.first piece SS.none later none).2 (withoutF later piece) := by
  obtain ⟨a, _, c⟩ := placeAll_all (m := m) (piece := piece) (Rt := fun _ s => s ∈ withoutF later piece) (o := none) (withoutF later piece) SS.none SInv.start (without_ok hl hp) fun t2 _ _ x hx => hx
  exact ⟨a, c⟩
theorem links_end (hm : OkM m) (he : earlier.length = m.sizes.length) {sks : List (List Nat)} (hs : ∀ s ∈ sks, OkSk m.sizes s) :
    SInv m [] (Own sks earlier (linksF m.first earlier sks).2.2) (linksF m.first earlier sks).1 ∧ (linksF m.first earlier sks).2.1.length = sks.length ∧ ∀ (n : Nat) (s entry : List Nat), n < sks.length → sks[n]? = some s → (linksF m.first earlier sks).2.1[n]? = some entry → Cov (linksF m.first earlier sks).1.sks entry (metF earlier s) := by
  obtain ⟨a, _, c, _, e⟩ := links_all (m := m) he hs sks.length (Nat.le_refl _) (linksF m.first earlier sks) (by
    have e : (numbered sks).length = sks.length := by
      unfold numbered
      rw [List.length_zip, List.length_range, Nat.min_self]
    have e2 : (numbered sks).take sks.length = numbered sks := List.take_of_length_le (by omega)
    rw [e2]
    rfl)
  exact ⟨a, c, e⟩
theorem told_paper (hm : OkM m) (he : OkSk m.sizes earlier) (hl : OkSk m.sizes later) (hp : ∀ q ∈ piece, q.length = m.sizes.length) {sks : List (List Nat)} {cover : List Nat} {table : List (List (List Nat))} {links roots : List (List Nat)} {steps : List (List (List Nat))}
    (h : Tells m earlier later piece (.told sks cover table links roots steps)) : PaperOk m earlier later piece sks cover table links roots steps := by
  cases h with
  | @told ts tb _ _ hR hlen hR2 hf hlen2 =>
    obtain ⟨i0, c0⟩ := cover_of hm hl hp
    obtain ⟨i4, g4, _, r4⟩ := rows_all hp i0 hR
    obtain ⟨iv, l1, l2⟩ := links_end (earlier := earlier) hm he.1 i4.st.ok
    obtain ⟨ib, gb, _, rb⟩ := rows_all (piece := []) nil_len iv hR2
    have f1 := i4.st.few hm
    have f2 := ib.st.few hm
    exact ⟨⟨by omega, by omega⟩, i4.st.ok, ib.st.ok, ib.nof hf, g4.cov c0, ⟨hlen, fun k s r h1 h2 => r4 k s r h2 h1⟩, l1, fun k s entry h1 h2 => gb.cov (l2 k s entry (List.getElem?_eq_some_iff.mp h1).1 h1 h2), ⟨hlen2, fun k s r h1 h2 => rb k s r h2 h1⟩⟩
/-- what is closed is closed for disks, seen backwards -/
theorem closed_back (hm : OkM m) (hp : ∀ q ∈ piece, q.length = m.sizes.length) {sks : List (List Nat)} {table : List (List (List Nat))} (hs : ∀ s ∈ sks, OkSk m.sizes s) (hc : ClosedOk m piece sks table) {d : List Nat} {e : Deed} (hd : OkDk m.sizes d) (he : e ∈ m.deeds) (hcan : canF d e = true) (hh : hasF piece d = false)
    (h : ∃ s ∈ sks, inF s (afterF d e) = true) : ∃ s ∈ sks, inF s d = true := by
  obtain ⟨s, hs1, hin⟩ := h
  have oks := hs s hs1
  obtain ⟨k, hk⟩ := List.mem_iff_getElem?.mp hs1
  obtain ⟨j, hj⟩ := List.mem_iff_getElem?.mp he
  have oke := hm.deed e he
  obtain ⟨b, hb, hbin⟩ := (before_iff oke oks.1 hd).mpr ⟨hcan, hin⟩
  have okb := before_ok oks hb
  have hkt : k < table.length := by rw [hc.len]; exact (List.getElem?_eq_some_iff.mp hk).1
  have hrow := hc.row k s table[k] hk (List.getElem?_eq_getElem hkt)
  have hjr : j < table[k].length := by rw [hrow.len]; exact (List.getElem?_eq_some_iff.mp hj).1
  have hcov := hrow.at_ j e (table[k][j]) hj (List.getElem?_eq_getElem hjr)
  have ep : partsF m.sizes piece s e = withoutF b piece := by unfold partsF; rw [hb]
  rw [ep] at hcov
  obtain ⟨p, hp1, hp2⟩ := (without_iff (a := b) (d := d) (piece := piece) (fun q hq => by rw [hp q hq, okb.1]) (by rw [hd.1, okb.1])).mpr ⟨hbin, hh⟩
  have okp := without_ok okb hp p hp1
  obtain ⟨i, hi⟩ := List.mem_iff_getElem?.mp hp1
  have hie : i < (table[k][j]).length := by rw [hcov.len]; exact (List.getElem?_eq_some_iff.mp hi).1
  obtain ⟨s2, h1, h2⟩ := hcov.at_ i _ p (List.getElem?_eq_getElem hie) hi
  have ok2 := hs s2 (List.mem_of_getElem? h1)
  exact ⟨s2, List.mem_of_getElem? h1, inc_in (by rw [ok2.1, okp.1]) (by rw [hd.1, okp.1]) h2 hp2⟩
theorem cov_in {sks : List (List Nat)} {entry : List Nat} {parts : List (List Nat)} {z d p : List Nat} (hs : ∀ s ∈ sks, OkSk z s) (hp : OkSk z p) (hd : OkDk z d) (hc : Cov sks entry parts) (h1 : p ∈ parts) (h2 : inF p d = true) : ∃ s ∈ sks, inF s d = true := by
  obtain ⟨i, hi⟩ := List.mem_iff_getElem?.mp h1
  have hie : i < entry.length := by rw [hc.len]; exact (List.getElem?_eq_some_iff.mp hi).1
  obtain ⟨s2, q1, q2⟩ := hc.at_ i _ p (List.getElem?_eq_getElem hie) hi
  have ok2 := hs s2 (List.mem_of_getElem? q1)
  exact ⟨s2, List.mem_of_getElem? q1, inc_in (by rw [ok2.1, hp.1]) (by rw [hd.1, hp.1]) q2 h2⟩
theorem first_in (hm : OkM m) {d : List Nat} (h : d ∈ (disksF m.first).filter fun d => !hasF [] d) : OkDk m.sizes d ∧ inF m.first d = true := (disks_in (fun i hi => (hm.size i hi).2) hm.first).mp (List.mem_filter.mp h).1
theorem has_nil (d : List Nat) : hasF [] d = false := rfl
theorem starts_ok (hm : OkM m) : KsOk m.sizes (startsF m.deeds m.first earlier piece) := (bfs_ok (piece := []) hm.deed (start_ok (fun i hi => (hm.size i hi).2) hm.first) 5000).filter
theorem paper_not (hm : OkM m) (he : OkSk m.sizes earlier) (hl : OkSk m.sizes later) (hp : ∀ q ∈ piece, q.length = m.sizes.length) {sks : List (List Nat)} {cover : List Nat} {table : List (List (List Nat))} {links roots : List (List Nat)} {steps : List (List (List Nat))}
    (h : PaperOk m earlier later piece sks cover table links roots steps) : ¬ Missing m.deeds m.first earlier later piece := by
  rintro ⟨k, d, _, hk, hlast⟩
  -- no disk that a history reaches lies in a root
  have hA : ∀ n, ∀ d ∈ bfsF m.deeds [] ((disksF m.first).filter fun d => !hasF [] d) n, OkDk m.sizes d ∧ ¬ ∃ s ∈ roots, inF s d = true := bfs_all (fun d hd => by
    obtain ⟨h1, h2⟩ := first_in hm hd
    refine ⟨h1, fun ⟨s, hs, hin⟩ => ?_⟩
    have oks := h.rt s hs
    obtain ⟨c, hc⟩ := meet_both (by rw [hm.first.1, oks.1]) (by rw [h1.1, oks.1]) hin h2
    rw [h.away s hs] at hc
    cases hc) fun d e he2 ⟨h1, h2⟩ hc _ => ⟨after_ok (hm.deed e he2) h1, fun h3 => h2 (closed_back hm nil_len h.rt h.steps h1 he2 hc (has_nil d) h3)⟩
  -- nor does a start lie in a sketch
  have hB : ∀ n, ∀ d ∈ bfsF m.deeds piece (startsF m.deeds m.first earlier piece) n, (OkDk m.sizes d ∧ hasF piece d = false) ∧ ¬ ∃ s ∈ sks, inF s d = true := bfs_all (fun d hd => by
    obtain ⟨h1, h2⟩ := List.mem_filter.mp hd
    rw [Bool.and_eq_true] at h2
    obtain ⟨h3, h4⟩ := hA 5000 d h1
    have h5 : hasF piece d = false := by simpa using h2.2
    refine ⟨⟨h3, h5⟩, fun ⟨s, hs, hin⟩ => h4 ?_⟩
    have oks := h.sk s hs
    obtain ⟨c, hc⟩ := meet_both (by rw [he.1, oks.1]) (by rw [h3.1, oks.1]) hin h2.1
    obtain ⟨i, hi⟩ := List.mem_iff_getElem?.mp hs
    have hli : i < links.length := by rw [h.llen]; exact (List.getElem?_eq_some_iff.mp hi).1
    have hcov := h.link i s links[i] hi (List.getElem?_eq_getElem hli)
    have em : metF earlier s = [c] := by unfold metF; rw [hc]
    rw [em] at hcov
    exact cov_in h.rt (meet_ok oks he.1 hc) h3 hcov (List.mem_singleton.mpr rfl) ((meet_in (by rw [he.1, oks.1]) (by rw [h3.1, oks.1]) hc).mpr ⟨hin, h2.1⟩)) fun d e he2 ⟨⟨h1, h2⟩, h3⟩ hc hh => ⟨⟨after_ok (hm.deed e he2) h1, hh⟩, fun h4 => h3 (closed_back hm hp h.sk h.table h1 he2 hc h2 h4)⟩
  obtain ⟨⟨h1, h2⟩, h3⟩ := hB k d (List.mem_of_getElem? hk)
  obtain ⟨p, hp1, hp2⟩ := (without_iff (a := later) (d := d) (piece := piece) (fun q hq => by rw [hp q hq, hl.1]) (by rw [h1.1, hl.1])).mpr ⟨hlast, h2⟩
  exact h3 (cov_in h.sk (without_ok hl hp p hp1) h1 h.cov hp1 hp2)
theorem hist_missing (hm : OkM m) (he : OkSk m.sizes earlier) {disk ds : List Nat} {moment : Nat} (h : HistOk m earlier later piece disk ds moment) : Missing m.deeds m.first earlier later piece := by
  have hst := start_ok (p := fun d => !hasF [] d) (fun i hi => (hm.size i hi).2) hm.first
  have h0 : disk ∈ (disksF m.first).filter fun d => !hasF [] d := List.mem_filter.mpr ⟨(disks_in (fun i hi => (hm.size i hi).2) hm.first).mpr ⟨h.dk, h.first⟩, by rw [has_nil]; rfl⟩
  have hsplit : ds = ds.take moment ++ ds.drop moment := (List.take_append_drop moment ds).symm
  have r1 : RunOk m.deeds disk (ds.take moment) := ⟨fun i n hi => by
    rw [List.getElem?_take] at hi
    split at hi
    · rename_i hlt
      obtain ⟨e, q1, q2⟩ := h.run.at_ i n hi
      exact ⟨e, q1, by rw [List.take_take, Nat.min_eq_left (by omega)]; exact q2⟩
    · cases hi⟩
  have hmom := h.mom
  have m1 : runF m.deeds disk (ds.take moment) ∈ stepsF m.deeds m.first [] := bfs_run hm hst _ disk (bfs_start h0) r1 fun k _ => has_nil _
  have m2 : runF m.deeds disk (ds.take moment) ∈ startsF m.deeds m.first earlier piece := List.mem_filter.mpr ⟨m1, by rw [h.earlier, h.clean moment (Nat.le_refl _) hmom]; rfl⟩
  have tk : ∀ k, runF m.deeds (runF m.deeds disk (ds.take moment)) ((ds.drop moment).take k) = runF m.deeds disk (ds.take (moment + k)) := fun k => by
    rw [← run_append, List.take_add]
  have r2 : RunOk m.deeds (runF m.deeds disk (ds.take moment)) (ds.drop moment) := ⟨fun i n hi => by
    rw [List.getElem?_drop] at hi
    obtain ⟨e, q1, q2⟩ := h.run.at_ (moment + i) n hi
    exact ⟨e, q1, by rw [tk]; exact q2⟩⟩
  have m3 := bfs_run hm (starts_ok (earlier := earlier) (piece := piece) hm) (ds.drop moment) _ (bfs_start m2) r2 fun k hk => by
    rw [tk]
    rw [List.length_drop] at hk
    exact h.clean (moment + k) (by omega) (by omega)
  rw [← run_append, ← hsplit] at m3
  obtain ⟨k, hk⟩ := List.mem_iff_getElem?.mp m3
  have few := (bfs_ok (piece := piece) hm.deed (starts_ok (earlier := earlier) (piece := piece) hm) 5000).few hm
  have hk2 : k < 5000 := by have := (List.getElem?_eq_some_iff.mp hk).1; omega
  exact ⟨k, _, hk2, bfs_turn (Nat.le_of_lt hk2) hk, h.last⟩
theorem least_ok {z s d : List Nat} (hs : OkSk z s) (h : LeastF s d) : OkDk z d ∧ inF s d = true := by
  refine ⟨⟨by rw [h.1, hs.1], fun i hi => ?_⟩, (in_iff h.1.symm).mpr h.2⟩
  exact bit_small (hs.2 i hi).2 (h.2 i (by rw [hs.1]; exact hi))
theorem not_hist (hm : OkM m) (he : OkSk m.sizes earlier) (hl : OkSk m.sizes later) (hp : ∀ q ∈ piece, q.length = m.sizes.length) {disk ds : List Nat} {moment : Nat} (h : Tells m earlier later piece (.not disk ds moment)) : HistOk m earlier later piece disk ds moment := by
  cases h with
  | @not ts tb _ _ f e owner e2 s c _ ds1 ds2 hR hlen hR2 hf hs1 hs2 hleast hway howner hway2 =>
    obtain ⟨i0, c0⟩ := cover_of hm hl hp
    obtain ⟨i4, g4, _, r4⟩ := rows_all hp i0 hR
    obtain ⟨iv, l1, l2⟩ := links_end (earlier := earlier) hm he.1 i4.st.ok
    obtain ⟨ib, gb, _, rb⟩ := rows_all (piece := []) nil_len iv hR2
    have oks := ib.st.ok s (List.mem_of_getElem? hs1)
    have okc := meet_ok oks hm.first.1 hs2
    obtain ⟨dk, dc⟩ := least_ok okc hleast
    obtain ⟨d1, d2⟩ := (meet_in (d := disk) (by rw [hm.first.1, oks.1]) (by rw [dk.1, oks.1]) hs2).mp dc
    obtain ⟨r1, _, se, hse, ⟨ow, s0, ho1, ho2, ho3⟩, hin⟩ := way_run hm nil_len ib hway s disk hs1 dk d1
    rw [howner] at ho1
    cases ho1
    have ok0 := i4.st.ok s0 (List.mem_of_getElem? ho2)
    have dk1 := run_okd hm.deed ds1 disk dk
    obtain ⟨q1, q2⟩ := (meet_in (d := runF m.deeds disk ds1) (by rw [he.1, ok0.1]) (by rw [dk1.1, ok0.1]) ho3).mp hin
    obtain ⟨r2, k2, se2, hse2, hrt, hin2⟩ := way_run hm hp i4 hway2 s0 (runF m.deeds disk ds1) ho2 dk1 q1
    have tk : ∀ k, runF m.deeds disk ((ds1 ++ ds2).take (ds1.length + k)) = runF m.deeds (runF m.deeds disk ds1) (ds2.take k) := fun k => by
      rw [List.take_append, List.take_of_length_le (by omega), run_append, Nat.add_sub_cancel_left]
    -- all sketches keep off the piece
    have clean : ∀ (j : Nat) (sj d : List Nat), ts.sks[j]? = some sj → OkDk m.sizes d → inF sj d = true → hasF piece d = false := fun j sj d hj hd hin => by
      have hjl : j < ts.org.length := by rw [i4.st.len]; exact (List.getElem?_eq_some_iff.mp hj).1
      have part : ∃ a, OkSk m.sizes a ∧ sj ∈ withoutF a piece := by
        cases eo : ts.org[j] with
        | none =>
          obtain ⟨s2, a1, a2⟩ := i4.root j (by rw [List.getElem?_eq_getElem hjl, eo])
          rw [hj] at a1
          cases a1
          exact ⟨later, hl, a2⟩
        | some p =>
          obtain ⟨_, ee, sj2, sn, b, a1, a2, a3, a4, a5⟩ := i4.src j p.1 p.2 (by rw [List.getElem?_eq_getElem hjl, eo])
          rw [hj] at a3
          cases a3
          exact ⟨b, before_ok (i4.st.ok sj2 (List.mem_of_getElem? a2)) a4, a5⟩
      obtain ⟨a, oka, hmem⟩ := part
      exact ((without_iff (a := a) (d := d) (piece := piece) (fun q hq => by rw [hp q hq, oka.1]) (by rw [hd.1, oka.1])).mp ⟨sj, hmem, hin⟩).2
    have n1 := way_few (fun n d j h => (ib.src n d j h).1) hway
    have n2 := way_few (fun n d j h => (i4.src n d j h).1) hway2
    have n3 := (List.getElem?_eq_some_iff.mp hs1).1
    have n4 := (List.getElem?_eq_some_iff.mp ho2).1
    have n5 := ib.st.few hm
    have n6 := i4.st.few hm
    refine ⟨dk, d2, runOk_append r1 r2, ?_, by rw [List.length_append]; omega, ?_, fun k hk1 hk2 => ?_, by rw [List.length_append]; omega⟩
    · rw [run_append]
      have dk2 := run_okd hm.deed ds2 _ dk1
      have okse := i4.st.ok se2 (List.mem_of_getElem? hse2)
      exact ((without_iff (a := later) (d := runF m.deeds (runF m.deeds disk ds1) ds2) (piece := piece) (fun q hq => by rw [hp q hq, hl.1]) (by rw [dk2.1, hl.1])).mp ⟨se2, hrt, hin2⟩).1
    · have := tk 0
      rw [Nat.add_zero, List.take_zero] at this
      rw [this]
      exact q2
    · obtain ⟨j, rfl⟩ := Nat.exists_eq_add_of_le hk1
      rw [List.length_append] at hk2
      rw [tk]
      obtain ⟨i, si, h1, h2⟩ := k2 j (by omega)
      exact clean i si _ h1 (run_okd hm.deed _ _ dk1) h2
end
end M40

set_option Elab.async false
set_option linter.all false
set_option maxRecDepth 100000
set_option maxHeartbeats 1000000
/-! Walks: the law's is_closed, is_history, is_between. -/
namespace R40
open PySem PySem.Spec PyProof.Rows L2 M40
section
variable {P : Program} {w : World} {K : PySem.W.Frag} {mg : Str → Option Value} {base : Heap}
structure ClIn where
  m : Mach
  sks : List (List Nat)
  table : List (List (List Nat))
  piece : List (List Nat)
structure ClOk (x : ClIn) : Prop where
  m : OkM x.m
  p : PieceOk x.m x.piece
  s : ∀ s ∈ x.sks, OkSk x.m.sizes s
  few : x.sks.length ≤ 100000
  c : ClosedOk x.m x.piece x.sks x.table
abbrev spLClosed : Sp := spP (fun x : ClIn => ClOk x) (fun x => [sDeeds x.m.deeds, sInts x.m.sizes, sSks x.sks, sTab x.table, sPiece x.piece]) (fun _ => sBl true)
theorem parts_none {z s : List Nat} {piece : List (List Nat)} {e : Deed} (h : beforeF z s e = none) : partsF z piece s e = [] := by unfold partsF; rw [h]
theorem parts_some {z s b : List Nat} {piece : List (List Nat)} {e : Deed} (h : beforeF z s e = some b) : partsF z piece s e = withoutF b piece := by unfold partsF; rw [h]
theorem ok__law_is_closed (T : Txt K mg) : Ok__law_is_closed P w K mg base spLClosed := by
  refine okP T.f__law_is_closed sc__law_is_closed (fun _ => rfl) fun cdv A outer s H E hr => ⟨_, (pss_cons (ps_if (PW.pt (pw_or (pt_not (pt_val (pe_callB call_isi (by rfl) T.n_isinstance (by decide +kernel) (pa_cons (pv 3) (pa_cons (pe_bltn (v := .ty "tuple") (by rfl) T.n_tuple boot_tuple rfl) pa_nil))))) (pw_or1 (pt_cmpR op_ne (pe_callB call_len_seq (by rfl) T.n_len boot_len (pa_cons (pv 3) pa_nil)) (pe_callB call_len_seq (by rfl) T.n_len boot_len (pa_cons (pv 2) pa_nil)) (nomark _))))) (pss_one (ps_ret pe_bl)) pss_nil) (pss_cons (ps_for PassesOwn.never rfl (pi_range1 rfl T.n_range (pa_cons (pe_callB call_len_seq (by rfl) T.n_len boot_len (pa_cons (pv 2) pa_nil)) pa_nil)) (pg_name (i := 5) sc__law_is_closed.nd rfl (Or.inl rfl)) (pss_cons (ps_if (PW.pt (pw_or (pt_not (pt_val (pe_callB call_isi (by rfl) T.n_isinstance (by decide +kernel) (pa_cons (pe_ix ix_tup (pv 3) (pv 5) (fun _ _ => rfl)) (pa_cons (pe_bltn (v := .ty "tuple") (by rfl) T.n_tuple boot_tuple rfl) pa_nil))))) (pw_or1 (pt_cmpR op_ne (pe_callB call_len_seq (by rfl) T.n_len boot_len (pa_cons (pe_ix ix_tup (pv 3) (pv 5) (fun _ _ => rfl)) pa_nil)) (pe_callB call_len_seq (by rfl) T.n_len boot_len (pa_cons (pv 0) pa_nil)) (nomark _))))) (pss_one (ps_ret pe_bl)) pss_nil) (pss_one (ps_for PassesOwn.never rfl (pi_range1 rfl T.n_range (pa_cons (pe_callB call_len_seq (by rfl) T.n_len boot_len (pa_cons (pv 0) pa_nil)) pa_nil)) (pg_name (i := 6) sc__law_is_closed.nd rfl (Or.inl rfl)) (pss_cons (ps_set (i := 7) sc__law_is_closed.nd rfl (Or.inl rfl) (pe_call (ok__law_before T) (hr.mono (by decide)) rfl T.g__law_before T.f__law_before.kp T.b__law_before .nil pass0 (pa_cons (pv 0) (pa_cons (pv 1) (pa_cons (pe_ix ix_tup (pv 2) (pv 5) (fun _ _ => rfl)) (pa_cons (pv 6) pa_nil)))))) (pss_cons (ps_set (i := 8) sc__law_is_closed.nd rfl (Or.inl rfl) (pe_ifExp (pt_cmpR op_isN (pv 7) pe_non (nomark _)) (pe_lst pa_nil) (pe_call (ok__law_without T) (hr.mono (by decide)) rfl T.g__law_without T.f__law_without.kp T.b__law_without .nil pass0 (pa_cons (pv 7) (pa_cons (pv 4) pa_nil))))) (pss_one (ps_if (pt_not (pt_val (pe_call (ok__law_covers T) (hr.mono (by decide)) rfl T.g__law_covers T.f__law_covers.kp T.b__law_covers .nil pass0 (pa_cons (pv 2) (pa_cons (pe_ix ix_tup (pe_ix ix_tup (pv 3) (pv 5) (fun _ _ => rfl)) (pv 6) (fun _ _ => rfl)) (pa_cons (pv 8) pa_nil)))))) (pss_one (ps_ret pe_bl)) pss_nil)))))))) (pss_one (ps_ret pe_bl)))), ?_⟩
  rintro ⟨m, sks, table, piece⟩ w0 σ Q hx o k
  have hm : OkM m := hx.m
  have hp : PieceOk m piece := hx.p
  have hs : ∀ s ∈ sks, OkSk m.sizes s := hx.s
  have hfs : sks.length ≤ 100000 := hx.few
  have hc : ClosedOk m piece sks table := hx.c
  have hdl := hm.deeds
  have hfew := hm.few
  have o : EnvOk w0.G σ [some (sDeeds m.deeds), some (sInts m.sizes), some (sSks sks), some (sTab table), some (sPiece piece), none, none, none, none] := o
  refine q_skip o (t_or (t_not (t_B (e_isTup (R := fun r : List (List Nat) => sTup sNs r) (e_var rfl)))) fun _ => t_neN (e_lenT (R := fun r : List (List Nat) => sTup sNs r) (e_var rfl)) (e_lenT (R := sNs) (e_var rfl))) (by rw [hc.len, bne_self_eq_false]; rfl) fun w1 l1 o1 => ?_
  refine q_for o1 (i_range1 (n := sks.length) (by omega) (e_lenT (R := sNs) (e_var rfl))) (fun _ => b_name) (fun _ => [some (sDeeds m.deeds), some (sInts m.sizes), some (sSks sks), some (sTab table), some (sPiece piece), none, none, none, none]) (fun _ u => Le w0 u) (fun _ _ _ h l => h.trans l) (fun u lu ou => ⟨ou, l1.trans lu⟩)
    (fun i k2 σ2 u hk o2 l2 N hN => ?_) (fun σ2 u o2 l2 => s_ret o2 e_c fun v w3 l3 p => k v w3 (l2.trans l3) p)
  obtain ⟨ek, hi⟩ := range_at hk
  subst ek
  obtain ⟨sk, hsk⟩ : ∃ sk, sks[k2]? = some sk := ⟨_, List.getElem?_eq_getElem hi⟩
  obtain ⟨row, hrow⟩ : ∃ row, table[k2]? = some row := ⟨_, List.getElem?_eq_getElem (by rw [hc.len]; exact hi)⟩
  have hr2 := hc.row k2 sk row hsk hrow
  have oksk := hs sk (List.mem_of_getElem? hsk)
  have o2 : EnvOk u.G σ2 [some (sDeeds m.deeds), some (sInts m.sizes), some (sSks sks), some (sTab table), some (sPiece piece), some (sNat k2), none, none, none] := o2
  refine q_skip o2 (t_or (t_not (t_B (e_isTup (R := sNs) (xs := row) (e_ixT (R := fun r : List (List Nat) => sTup sNs r) (i := k2) hrow (e_var rfl) (e_var rfl))))) fun _ => t_neN (e_lenT (R := sNs) (xs := row) (e_ixT (R := fun r : List (List Nat) => sTup sNs r) (i := k2) hrow (e_var rfl) (e_var rfl))) (e_lenL (R := sDeed) (e_var rfl))) (by rw [hr2.len, bne_self_eq_false]; rfl) fun u1 l3 o3 => ?_
  refine s_for o3 (i_range1 (n := m.deeds.length) (by omega) (e_lenL (R := sDeed) (e_var rfl))) (fun _ => b_name) (fun _ => [some (sDeeds m.deeds), some (sInts m.sizes), some (sSks sks), some (sTab table), some (sPiece piece), some (sNat k2), none, none, none]) (fun _ u2 => Le w0 u2 ∧ Gx u u2) (fun _ _ _ h l => ⟨h.1.trans l, fun a o q => l.g a o (h.2 a o q)⟩) (fun u2 lu ou => ⟨ou, l2.trans (l3.trans lu), fun a o q => lu.g a o (l3.g a o q)⟩)
    (fun j j2 σ3 u2 hj o4 h4 N2 hN2 => ?_) (fun σ3 u2 o4 h4 => hN σ3 u2 _ o4 (fun o => o.drop 5) h4.1 h4.2)
  obtain ⟨ej, hj⟩ := range_at hj
  subst ej
  obtain ⟨e, he⟩ : ∃ e, m.deeds[j2]? = some e := ⟨_, List.getElem?_eq_getElem hj⟩
  obtain ⟨en, hen⟩ : ∃ en, row[j2]? = some en := ⟨_, List.getElem?_eq_getElem (by rw [hr2.len]; exact hj)⟩
  have hcov := hr2.at_ j2 e en he hen
  have o4 : EnvOk u2.G σ3 [some (sDeeds m.deeds), some (sInts m.sizes), some (sSks sks), some (sTab table), some (sPiece piece), some (sNat k2), some (sNat j2), none, none] := o4
  refine q_set (s := sOpt sNs (beforeF m.sizes sk e)) o4 (e_call (m, sk, j2, e) ⟨hm, oksk.1, he⟩ (ea_cons (e_var rfl) (ea_cons (e_var rfl) (ea_cons (e_ixT (R := sNs) (i := k2) hsk (e_var rfl) (e_var rfl)) (ea_cons (e_var rfl) ea_nil))))) fun σ4 u3 l5 o5 => ?_
  have o5 : EnvOk u3.G σ4 [some (sDeeds m.deeds), some (sInts m.sizes), some (sSks sks), some (sTab table), some (sPiece piece), some (sNat k2), some (sNat j2), some (sOpt sNs (beforeF m.sizes sk e)), none] := o5
  refine q_set (s := sPiece (partsF m.sizes piece sk e)) o5 (e_if (b := (beforeF m.sizes sk e).isNone) (t_test (e_isN _ (opt_isN tup_ne _) (e_var rfl))) (fun q => ?_) (fun q => ?_)) fun σ5 u4 l6 o6 => ?_
  · rw [parts_none (Option.isNone_iff_eq_none.mp q)]
    exact (el_nil (R := sNs)).e
  · obtain ⟨b, hb⟩ : ∃ b, beforeF m.sizes sk e = some b := by
      cases eb : beforeF m.sizes sk e with
      | none => rw [eb] at q; cases q
      | some b => exact ⟨b, rfl⟩
    have okb := before_ok oksk hb
    rw [parts_some hb, hb]
    exact e_call (b, piece) ⟨by rw [okb.1]; exact hfew, hp.1, fun q hq => by rw [(hp.2 q hq).1, okb.1]⟩ (ea_cons (e_var (s := sNs b) rfl) (ea_cons (e_var rfl) ea_nil))
  · have o6 : EnvOk u4.G σ5 [some (sDeeds m.deeds), some (sInts m.sizes), some (sSks sks), some (sTab table), some (sPiece piece), some (sNat k2), some (sNat j2), some (sOpt sNs (beforeF m.sizes sk e)), some (sPiece (partsF m.sizes piece sk e))] := o6
    refine s_if o6 (t_not (t_B (e_call (sks, en, partsF m.sizes piece sk e) hcov (ea_cons (e_var rfl) (ea_cons (e_ixT (R := sNs) (i := j2) hen (e_ixT (R := fun r : List (List Nat) => sTup sNs r) (i := k2) hrow (e_var rfl) (e_var rfl)) (e_var rfl)) (ea_cons (e_var rfl) ea_nil)))))) (fun q => nomatch q) (fun _ u5 l7 o7 => ?_)
    exact hN2 σ5 u5 _ o7 (fun o => ((o.drop 6).drop 7).drop 8) ⟨h4.1.trans (l5.trans (l6.trans l7)), fun a o q => l7.g a o (l6.g a o (l5.g a o (h4.2 a o q)))⟩ fun a o q => l7.g a o (l6.g a o (l5.g a o q))
/-! ### a history -/
structure HiIn where
  m : Mach
  later : List Nat
  disk : List Nat
  ds : List Nat
structure HiOk (x : HiIn) : Prop where
  m : OkM x.m
  dk : OkDk x.m.sizes x.disk
  first : inF x.m.first x.disk = true
  run : RunOk x.m.deeds x.disk x.ds
  last : inF x.later (runF x.m.deeds x.disk x.ds) = true
abbrev spLHistory : Sp := spP (fun x : HiIn => HiOk x) (fun x => [sDeeds x.m.deeds, sNs x.m.first, sNs x.later, sPiece [], sNs x.disk, sNs x.ds]) (fun _ => sBl true)
theorem ok__law_is_history (T : Txt K mg) : Ok__law_is_history P w K mg base spLHistory := by
  refine okP T.f__law_is_history sc__law_is_history (fun _ => rfl) fun cdv A outer s H E hr => ⟨_, (pss_cons (ps_if (PW.pt (pw_or (pt_not (pt_val (pe_callB call_isi (by rfl) T.n_isinstance (by decide +kernel) (pa_cons (pv 4) (pa_cons (pe_bltn (v := .ty "tuple") (by rfl) T.n_tuple boot_tuple rfl) pa_nil))))) (pw_or (pt_not (pt_val (pe_callB call_isi (by rfl) T.n_isinstance (by decide +kernel) (pa_cons (pv 5) (pa_cons (pe_bltn (v := .ty "tuple") (by rfl) T.n_tuple boot_tuple rfl) pa_nil))))) (pw_or (pt_not (pt_val (pe_call (ok__law_in T) (hr.mono (by decide)) rfl T.g__law_in T.f__law_in.kp T.b__law_in .nil pass0 (pa_cons (pv 1) (pa_cons (pv 4) pa_nil))))) (pw_or1 (pt_val (pe_call (ok__law_has T) (hr.mono (by decide)) rfl T.g__law_has T.f__law_has.kp T.b__law_has .nil pass0 (pa_cons (pv 3) (pa_cons (pv 4) pa_nil))))))))) (pss_one (ps_ret pe_bl)) pss_nil) (pss_cons (ps_for PassesOwn.never rfl (pi_tup (pv 5)) (pg_name (i := 6) sc__law_is_history.nd rfl (Or.inl rfl)) (pss_cons (ps_if (PW.pt (pw_or (pt_not (pt_val (pe_call (ok__law_is_int T) (hr.mono (by decide)) rfl T.g__law_is_int T.f__law_is_int.kp T.b__law_is_int .nil pass0 (pa_cons (pv 6) pa_nil)))) (pw_or (pt_not (pt_chain op_le op_lt pe_int (pv 6) (pe_callB call_len_seq (by rfl) T.n_len boot_len (pa_cons (pv 0) pa_nil)))) (pw_or1 (pt_not (pt_val (pe_call (ok__law_can T) (hr.mono (by decide)) rfl T.g__law_can T.f__law_can.kp T.b__law_can .nil pass0 (pa_cons (pv 0) (pa_cons (pv 4) (pa_cons (pv 6) pa_nil)))))))))) (pss_one (ps_ret pe_bl)) pss_nil) (pss_cons (ps_set (i := 4) sc__law_is_history.nd rfl (Or.inl rfl) (pe_call (ok__law_after T) (hr.mono (by decide)) rfl T.g__law_after T.f__law_after.kp T.b__law_after .nil pass0 (pa_cons (pv 0) (pa_cons (pv 4) (pa_cons (pv 6) pa_nil))))) (pss_one (ps_if (pt_val (pe_call (ok__law_has T) (hr.mono (by decide)) rfl T.g__law_has T.f__law_has.kp T.b__law_has .nil pass0 (pa_cons (pv 3) (pa_cons (pv 4) pa_nil)))) (pss_one (ps_ret pe_bl)) pss_nil))))) (pss_one (ps_ret (pe_call (ok__law_in T) (hr.mono (by decide)) rfl T.g__law_in T.f__law_in.kp T.b__law_in .nil pass0 (pa_cons (pv 2) (pa_cons (pv 4) pa_nil))))))), ?_⟩
  rintro ⟨m, la, disk, ds⟩ w0 σ Q hx o k
  have hm : OkM m := hx.m
  have hd : OkDk m.sizes disk := hx.dk
  have hf : inF m.first disk = true := hx.first
  have hrun : RunOk m.deeds disk ds := hx.run
  have hlast : inF la (runF m.deeds disk ds) = true := hx.last
  have k : ∀ v w2, Le w0 w2 → v = V.bl true → Q v w2.H := k
  have o : EnvOk w0.G σ [some (sDeeds m.deeds), some (sNs m.first), some (sNs la), some (sPiece []), some (sNs disk), some (sNs ds), none] := o
  refine q_skip o (t_or (t_not (t_B (e_isTup (R := fun n : Nat => sNat n) (e_var rfl)))) fun _ => t_or (t_not (t_B (e_isTup (R := fun n : Nat => sNat n) (e_var rfl)))) fun _ => t_or (t_not (t_B (e_call (m.first, disk) trivial (ea_cons (e_var rfl) (ea_cons (e_var rfl) ea_nil))))) fun _ => t_B (e_call (([] : List (List Nat)), disk) trivial (ea_cons (e_var rfl) (ea_cons (e_var rfl) ea_nil))))
    (by show (!true || (!true || (!inF m.first disk || hasF [] disk))) = false; rw [hf]; rfl) fun w1 l1 o1 => ?_
  refine q_for o1 (i_tup (R := fun n : Nat => sNat n) (xs := ds) (e_var rfl)) (fun _ => b_name) (fun i => [some (sDeeds m.deeds), some (sNs m.first), some (sNs la), some (sPiece []), some (sNs (runF m.deeds disk (ds.take i))), some (sNs ds), none]) (fun _ u => Le w0 u) (fun _ _ _ h l => h.trans l) (fun u lu ou => ⟨ou, l1.trans lu⟩)
    (fun i n σ2 u hn o2 l2 N hN => ?_) (fun σ2 u o2 l2 => ?_)
  · obtain ⟨e, he, hcan⟩ := hrun.at_ i n hn
    have hnl : n < m.deeds.length := (List.getElem?_eq_some_iff.mp he).1
    have hdk := run_okd hm.deed (ds.take i) disk hd
    rw [run_succ hn he] at hN
    generalize runF m.deeds disk (ds.take i) = d at *
    have at_ : AtOk ⟨m.sizes, m.deeds, d, n, e⟩ := ⟨he, hm.deed e (List.mem_of_getElem? he), hdk.1⟩
    have o2 : EnvOk u.G σ2 [some (sDeeds m.deeds), some (sNs m.first), some (sNs la), some (sPiece []), some (sNs d), some (sNs ds), some (sNat n)] := o2
    refine q_skip o2 (t_or (t_not (t_B (e_call (n : Int) trivial (ea_cons (e_var rfl) ea_nil)))) fun _ => t_or (t_not (t_test (e_chain (g := fun i j => decide (i ≤ j)) (g' := fun i j => decide (i < j)) (i := 0) (j := (n : Int)) (k := (m.deeds.length : Int)) e_c (e_var rfl) fun _ => e_lenL (R := sDeed) (e_var rfl)))) fun _ =>
      t_not (t_B (e_call (⟨m.sizes, m.deeds, d, n, e⟩ : AtDeed) at_ (ea_cons (e_var rfl) (ea_cons (e_var rfl) (ea_cons (e_var rfl) ea_nil)))))) ?_ fun u3 l3 o3 => ?_
    · show (!true || (!(decide ((0 : Int) ≤ (n : Int)) && decide ((n : Int) < (m.deeds.length : Int))) || !canF d e)) = false
      rw [hcan, decide_eq_true (by omega), decide_eq_true (by omega)]
      rfl
    refine q_set (s := sNs (afterF d e)) o3 (e_call (⟨m.sizes, m.deeds, d, n, e⟩ : AtDeed) at_ (ea_cons (e_var rfl) (ea_cons (e_var rfl) (ea_cons (e_var rfl) ea_nil)))) fun σ4 u4 l4 o4 => ?_
    refine s_if o4 (t_B (e_call (([] : List (List Nat)), afterF d e) trivial (ea_cons (e_var rfl) (ea_cons (e_var rfl) ea_nil)))) (fun q => nomatch q) (fun _ u5 l5 o5 => ?_)
    exact hN σ4 u5 _ o5 (fun o => o.drop 6) (l2.trans (l3.trans (l4.trans l5))) fun a o q => l5.g a o (l4.g a o (l3.g a o q))
  · rw [List.take_length] at o2
    refine s_ret o2 (e_call (la, runF m.deeds disk ds) trivial (ea_cons (e_var rfl) (ea_cons (e_var rfl) ea_nil))) fun v w3 l3 p => k v w3 (l2.trans l3) ?_
    have p : v = V.bl (inF la (runF m.deeds disk ds)) := p
    rw [hlast] at p
    exact p
/-! ### a paper -/
structure PaIn where
  m : Mach
  earlier : List Nat
  later : List Nat
  piece : List (List Nat)
  x : BetIn
structure PaOk (y : PaIn) : Prop where
  m : OkM y.m
  e : OkSk y.m.sizes y.earlier
  l : OkSk y.m.sizes y.later
  p : PieceOk y.m y.piece
  c : PaperOk y.m y.earlier y.later y.piece y.x.sks y.x.cover y.x.table y.x.links y.x.roots y.x.steps
abbrev spLBetween (K : PySem.W.Frag) : Sp := spP (fun y : PaIn => PaOk y) (fun y => [sDeeds y.m.deeds, sInts y.m.sizes, sNs y.m.first, sNs y.earlier, sNs y.later, sPiece y.piece, sBetween K y.x]) (fun _ => sBl true)
theorem met_none {earlier s : List Nat} (h : meetF s earlier = none) : metF earlier s = [] := by unfold metF; rw [h]
theorem met_some {earlier s c : List Nat} (h : meetF s earlier = some c) : metF earlier s = [c] := by unfold metF; rw [h]
theorem ok__law_is_between (T : Txt K mg) : Ok__law_is_between P w K mg base (spLBetween K) := by
  refine okP T.f__law_is_between sc__law_is_between (fun _ => rfl) fun cdv A outer s H E hr => ⟨_, (pss_cons (ps_if (PW.pt (pw_or (pt_not (pt_val (pe_call (ok__law_are_sketches T) (hr.mono (by decide)) rfl T.g__law_are_sketches T.f__law_are_sketches.kp T.b__law_are_sketches .nil pass0 (pa_cons (pe_fld (pv 6) rfl) (pa_cons (pv 1) pa_nil))))) (pw_or1 (pt_not (pt_val (pe_call (ok__law_are_sketches T) (hr.mono (by decide)) rfl T.g__law_are_sketches T.f__law_are_sketches.kp T.b__law_are_sketches .nil pass0 (pa_cons (pe_fld (pv 6) rfl) (pa_cons (pv 1) pa_nil)))))))) (pss_one (ps_ret pe_bl)) pss_nil) (pss_cons (ps_for PassesOwn.never rfl (pi_tup (pe_fld (pv 6) rfl)) (pg_name (i := 7) sc__law_is_between.nd rfl (Or.inl rfl)) (pss_one (ps_if (pt_cmpR op_notN (pe_call (ok__law_meet T) (hr.mono (by decide)) rfl T.g__law_meet T.f__law_meet.kp T.b__law_meet .nil pass0 (pa_cons (pv 7) (pa_cons (pv 2) pa_nil))) pe_non (nomark _)) (pss_one (ps_ret pe_bl)) pss_nil))) (pss_cons (ps_if (pt_not (pt_val (pe_call (ok__law_covers T) (hr.mono (by decide)) rfl T.g__law_covers T.f__law_covers.kp T.b__law_covers .nil pass0 (pa_cons (pe_fld (pv 6) rfl) (pa_cons (pe_fld (pv 6) rfl) (pa_cons (pe_call (ok__law_without T) (hr.mono (by decide)) rfl T.g__law_without T.f__law_without.kp T.b__law_without .nil pass0 (pa_cons (pv 4) (pa_cons (pv 5) pa_nil))) pa_nil)))))) (pss_one (ps_ret pe_bl)) pss_nil) (pss_cons (ps_if (pt_not (pt_val (pe_call (ok__law_is_closed T) (hr.mono (by decide)) rfl T.g__law_is_closed T.f__law_is_closed.kp T.b__law_is_closed .nil pass0 (pa_cons (pv 0) (pa_cons (pv 1) (pa_cons (pe_fld (pv 6) rfl) (pa_cons (pe_fld (pv 6) rfl) (pa_cons (pv 5) pa_nil)))))))) (pss_one (ps_ret pe_bl)) pss_nil) (pss_cons (ps_if (PW.pt (pw_or (pt_not (pt_val (pe_callB call_isi (by rfl) T.n_isinstance (by decide +kernel) (pa_cons (pe_fld (pv 6) rfl) (pa_cons (pe_bltn (v := .ty "tuple") (by rfl) T.n_tuple boot_tuple rfl) pa_nil))))) (pw_or1 (pt_cmpR op_ne (pe_callB call_len_seq (by rfl) T.n_len boot_len (pa_cons (pe_fld (pv 6) rfl) pa_nil)) (pe_callB call_len_seq (by rfl) T.n_len boot_len (pa_cons (pe_fld (pv 6) rfl) pa_nil)) (nomark _))))) (pss_one (ps_ret pe_bl)) pss_nil) (pss_cons (ps_for PassesOwn.never rfl (pi_range1 rfl T.n_range (pa_cons (pe_callB call_len_seq (by rfl) T.n_len boot_len (pa_cons (pe_fld (pv 6) rfl) pa_nil)) pa_nil)) (pg_name (i := 8) sc__law_is_between.nd rfl (Or.inl rfl)) (pss_cons (ps_set (i := 9) sc__law_is_between.nd rfl (Or.inl rfl) (pe_call (ok__law_meet T) (hr.mono (by decide)) rfl T.g__law_meet T.f__law_meet.kp T.b__law_meet .nil pass0 (pa_cons (pe_ix ix_tup (pe_fld (pv 6) rfl) (pv 8) (fun _ _ => rfl)) (pa_cons (pv 3) pa_nil)))) (pss_one (ps_if (pt_not (pt_val (pe_call (ok__law_covers T) (hr.mono (by decide)) rfl T.g__law_covers T.f__law_covers.kp T.b__law_covers .nil pass0 (pa_cons (pe_fld (pv 6) rfl) (pa_cons (pe_ix ix_tup (pe_fld (pv 6) rfl) (pv 8) (fun _ _ => rfl)) (pa_cons (pe_ifExp (pt_cmpR op_isN (pv 9) pe_non (nomark _)) (pe_lst pa_nil) (pe_lst (pa_cons (pv 9) pa_nil))) pa_nil)))))) (pss_one (ps_ret pe_bl)) pss_nil)))) (pss_one (ps_ret (pe_call (ok__law_is_closed T) (hr.mono (by decide)) rfl T.g__law_is_closed T.f__law_is_closed.kp T.b__law_is_closed .nil pass0 (pa_cons (pv 0) (pa_cons (pv 1) (pa_cons (pe_fld (pv 6) rfl) (pa_cons (pe_fld (pv 6) rfl) (pa_cons (pe_lst pa_nil) pa_nil)))))))))))))), ?_⟩
  rintro ⟨m, ea, la, piece, x⟩ w0 σ Q hx o k
  have hm : OkM m := hx.m
  have hl : OkSk m.sizes la := hx.l
  have hp : PieceOk m piece := hx.p
  have he : OkSk m.sizes ea := hx.e
  have hc : PaperOk m ea la piece x.sks x.cover x.table x.links x.roots x.steps := hx.c
  have hfew := hm.few
  have hz : SzOk m.sizes := ⟨hm.pos, hm.few, hm.size⟩
  obtain ⟨fw1, fw2⟩ := hc.few
  have k : ∀ v w2, Le w0 w2 → v = V.bl true → Q v w2.H := k
  have o : EnvOk w0.G σ [some (sDeeds m.deeds), some (sInts m.sizes), some (sNs m.first), some (sNs ea), some (sNs la), some (sPiece piece), some (sBetween K x), none, none, none] := o
  have fS : ∀ {Γ : Env} {w : Wd}, Γ[6]? = some (some (sBetween K x)) → R40.E (tFld K (tVar 6) "sketches") Γ w (sSks x.sks) := fun h => e_fld T.c_BetweenPaper T.a_BetweenPaper_sketches rfl (e_var (s := sBetween K x) h)
  have fR : ∀ {Γ : Env} {w : Wd}, Γ[6]? = some (some (sBetween K x)) → R40.E (tFld K (tVar 6) "roots") Γ w (sSks x.roots) := fun h => e_fld T.c_BetweenPaper T.a_BetweenPaper_roots rfl (e_var (s := sBetween K x) h)
  have fL : ∀ {Γ : Env} {w : Wd}, Γ[6]? = some (some (sBetween K x)) → R40.E (tFld K (tVar 6) "links") Γ w (sSks x.links) := fun h => e_fld T.c_BetweenPaper T.a_BetweenPaper_links rfl (e_var (s := sBetween K x) h)
  refine q_skip o (t_or (t_not (t_B (e_call (x.sks, m.sizes) ⟨hz, hc.sk⟩ (ea_cons (fS rfl) (ea_cons (e_var rfl) ea_nil))))) fun _ => t_not (t_B (e_call (x.roots, m.sizes) ⟨hz, hc.rt⟩ (ea_cons (fR rfl) (ea_cons (e_var rfl) ea_nil))))) rfl fun w1 l1 o1 => ?_
  refine q_for o1 (i_tup (R := sNs) (xs := x.roots) (fR rfl)) (fun _ => b_name) (fun _ => [some (sDeeds m.deeds), some (sInts m.sizes), some (sNs m.first), some (sNs ea), some (sNs la), some (sPiece piece), some (sBetween K x), none, none, none]) (fun _ u => Le w0 u) (fun _ _ _ h l => h.trans l) (fun u lu ou => ⟨ou, l1.trans lu⟩)
    (fun i s2 σ2 u hs o2 l2 N hN => ?_) (fun σ2 u o2 l2 => ?_)
  · have hmem := List.mem_of_getElem? hs
    have hno := hc.away s2 hmem
    have oks := hc.rt s2 hmem
    have o2 : EnvOk u.G σ2 [some (sDeeds m.deeds), some (sInts m.sizes), some (sNs m.first), some (sNs ea), some (sNs la), some (sPiece piece), some (sBetween K x), some (sNs s2), none, none] := o2
    refine s_if o2 (b := false) (t_test (e_notN false (fun G v p => by
      have p : (sOpt sNs (meetF s2 m.first)).P G v := p
      rw [hno] at p
      rw [show v = V.non from p]
      rfl) (e_call (s2, m.first) (by show s2.length ≤ 1000; rw [oks.1]; omega) (ea_cons (e_var rfl) (ea_cons (e_var rfl) ea_nil))))) (fun q => nomatch q) (fun _ u3 l3 o3 => ?_)
    exact hN σ2 u3 _ o3 (fun o => o.drop 7) (l2.trans l3) l3.g
  refine q_skip o2 (t_not (t_B (e_call (x.sks, x.cover, withoutF la piece) hc.cov (ea_cons (fS rfl) (ea_cons (e_fld T.c_BetweenPaper T.a_BetweenPaper_cover rfl (e_var (s := sBetween K x) rfl)) (ea_cons (e_call (la, piece) ⟨by rw [hl.1]; exact hfew, hp.1, fun q hq => by rw [(hp.2 q hq).1, hl.1]⟩ (ea_cons (e_var rfl) (ea_cons (e_var rfl) ea_nil))) ea_nil)))))) rfl fun u3 l3 o3 => ?_
  refine q_skip o3 (t_not (t_B (e_call (⟨m, x.sks, x.table, piece⟩ : ClIn) ⟨hm, hp, hc.sk, fw1, hc.table⟩ (ea_cons (e_var rfl) (ea_cons (e_var rfl) (ea_cons (fS rfl) (ea_cons (e_fld T.c_BetweenPaper T.a_BetweenPaper_table rfl (e_var (s := sBetween K x) rfl)) (ea_cons (e_var rfl) ea_nil)))))))) rfl fun u4 l4 o4 => ?_
  refine q_skip o4 (t_or (t_not (t_B (e_isTup (fL rfl)))) fun _ => t_neN (e_lenT (fL rfl)) (e_lenT (fS rfl))) (by rw [hc.llen, bne_self_eq_false]; rfl) fun u5 l5 o5 => ?_
  have L5 : Le w0 u5 := l2.trans (l3.trans (l4.trans l5))
  refine q_for o5 (i_range1 (n := x.sks.length) (by omega) (e_lenT (fS rfl))) (fun _ => b_name) (fun _ => [some (sDeeds m.deeds), some (sInts m.sizes), some (sNs m.first), some (sNs ea), some (sNs la), some (sPiece piece), some (sBetween K x), none, none, none]) (fun _ u => Le w0 u) (fun _ _ _ h l => h.trans l) (fun u lu ou => ⟨ou, L5.trans lu⟩)
    (fun i k2 σ6 u6 hk o6 l6 N hN => ?_) (fun σ6 u6 o6 l6 => ?_)
  · obtain ⟨ek, hi⟩ := range_at hk
    subst ek
    obtain ⟨sk, hsk⟩ : ∃ sk, x.sks[k2]? = some sk := ⟨_, List.getElem?_eq_getElem hi⟩
    obtain ⟨en, hen⟩ : ∃ en, x.links[k2]? = some en := ⟨_, List.getElem?_eq_getElem (by rw [hc.llen]; exact hi)⟩
    have hcov := hc.link k2 sk en hsk hen
    have oksk := hc.sk sk (List.mem_of_getElem? hsk)
    have o6 : EnvOk u6.G σ6 [some (sDeeds m.deeds), some (sInts m.sizes), some (sNs m.first), some (sNs ea), some (sNs la), some (sPiece piece), some (sBetween K x), none, some (sNat k2), none] := o6
    refine q_set (s := sOpt sNs (meetF sk ea)) o6 (e_call (sk, ea) (by show sk.length ≤ 1000; rw [oksk.1]; omega) (ea_cons (e_ixT (R := sNs) (i := k2) hsk (fS rfl) (e_var rfl)) (ea_cons (e_var rfl) ea_nil))) fun σ7 u7 l7 o7 => ?_
    have o7 : EnvOk u7.G σ7 [some (sDeeds m.deeds), some (sInts m.sizes), some (sNs m.first), some (sNs ea), some (sNs la), some (sPiece piece), some (sBetween K x), none, some (sNat k2), some (sOpt sNs (meetF sk ea))] := o7
    refine s_if o7 (t_not (t_B (e_call (x.roots, en, metF ea sk) hcov (ea_cons (fR rfl) (ea_cons (e_ixT (R := sNs) (i := k2) hen (fL rfl) (e_var rfl)) (ea_cons (e_if (b := (meetF sk ea).isNone) (t_test (e_isN _ (opt_isN tup_ne _) (e_var rfl))) (fun q => ?_) (fun q => ?_)) ea_nil)))))) (fun q => nomatch q) (fun _ u8 l8 o8 => ?_)
    · rw [met_none (Option.isNone_iff_eq_none.mp q)]
      exact (el_nil (R := sNs)).e
    · obtain ⟨b, hb⟩ : ∃ b, meetF sk ea = some b := by
        cases eb : meetF sk ea with
        | none => rw [eb] at q; cases q
        | some b => exact ⟨b, rfl⟩
      rw [met_some hb, hb]
      exact (el_one (R := sNs) (x := b) (e_var rfl)).e
    · exact hN σ7 u8 _ o8 (fun o => (o.drop 8).drop 9) (l6.trans (l7.trans l8)) fun a o q => l8.g a o (l7.g a o q)
  refine s_ret o6 (e_call (⟨m, x.roots, x.steps, []⟩ : ClIn) ⟨hm, ⟨Nat.zero_le _, fun q h => (nomatch h)⟩, hc.rt, fw2, hc.steps⟩ (ea_cons (e_var rfl) (ea_cons (e_var rfl) (ea_cons (fR rfl) (ea_cons (e_fld T.c_BetweenPaper T.a_BetweenPaper_steps rfl (e_var (s := sBetween K x) rfl)) (ea_cons (el_nil (R := sNs)).e ea_nil)))))) fun v w9 l9 p => k v w9 (l6.trans l9) p
end
end R40

set_option Elab.async false
set_option linter.all false
set_option maxRecDepth 100000
set_option maxHeartbeats 1000000
/-! Walk: the law. -/
namespace R40
open PySem PySem.Spec PyProof.Rows L2 M40
/-! ### lists of tuples of ints, compared -/
def datI (s : List Nat) : List PyData := s.map fun n : Nat => .int (n : Int)
def datP (p : List (List Nat)) : List PyData := p.map fun s => .tuple (datI s)
theorem lay_i : ∀ s : List Nat, PyData.canLayAll0 (datI s) = true
  | [] => rfl
  | n :: r => by
    have ih := lay_i r
    show PyData.canLayAll0 (.int (n : Int) :: datI r) = true
    simp [PyData.canLayAll0, PyData.canLay0, ih]
theorem lay_p : ∀ p : List (List Nat), PyData.canLayAll0 (datP p) = true
  | [] => rfl
  | s :: r => by
    have ih := lay_p r
    show PyData.canLayAll0 (.tuple (datI s) :: datP r) = true
    simp [PyData.canLayAll0, PyData.canLay0, ih, lay_i]
theorem dep_i : ∀ s : List Nat, PyData.depthAll (datI s) ≤ 1
  | [] => by simp [datI, PyData.depthAll]
  | n :: r => by
    have ih := dep_i r
    show PyData.depthAll (.int (n : Int) :: datI r) ≤ 1
    simp [PyData.depthAll, PyData.depth]
    omega
theorem dep_p : ∀ p : List (List Nat), PyData.depthAll (datP p) ≤ 3
  | [] => by simp [datP, PyData.depthAll]
  | s :: r => by
    have ih := dep_p r
    have h := dep_i s
    show PyData.depthAll (.tuple (datI s) :: datP r) ≤ 3
    simp [PyData.depthAll, PyData.depth]
    omega
theorem eqv_i : ∀ s : List Nat, PyData.eqvAll (datI s) (datI s) = true
  | [] => rfl
  | n :: r => by
    have ih := eqv_i r
    show PyData.eqvAll (.int (n : Int) :: datI r) (.int (n : Int) :: datI r) = true
    simp [PyData.eqvAll, PyData.eqv, ih]
theorem eqv_p : ∀ p : List (List Nat), PyData.eqvAll (datP p) (datP p) = true
  | [] => rfl
  | s :: r => by
    have ih := eqv_p r
    show PyData.eqvAll (.tuple (datI s) :: datP r) (.tuple (datI s) :: datP r) = true
    simp [PyData.eqvAll, PyData.eqv, ih, eqv_i]
theorem shaped_p (p : List (List Nat)) : SeqAt.shaped (.list (datP p)) = true := by
  have h := dep_p p
  have h2 := lay_p p
  unfold SeqAt.shaped
  rw [Bool.and_eq_true, decide_eq_true_eq]
  simp [PyData.canLay0, PyData.depth]
  exact ⟨h2, by omega⟩
section
variable {K : PySem.W.Frag} {w : Wd}
theorem dp_i {H : Hp} : ∀ s : List Nat, DpAll K H (s.map fun n : Nat => V.int (n : Int)) (datI s)
  | [] => .nil
  | n :: r => .cons (.int _) (dp_i r)
theorem dp_p {p : List (List Nat)} {v : V} (h : (sPiece p).P w.G v) : Dp K w.H v (.list (datP p)) := by
  obtain ⟨a, vs, rfl, ha, r⟩ := h
  refine .lst (SqL.of (w.sub _ _ ha)) ?_
  clear ha
  induction p generalizing vs with
  | nil =>
    cases vs with
    | nil => exact .nil
    | cons x r' => cases r.len
  | cons s r' ih =>
    cases vs with
    | nil => cases r.len
    | cons x vs' =>
      obtain ⟨b, us, rfl, hb, rr⟩ := r.at_ 0 x s rfl rfl
      have eu : us = s.map fun n : Nat => V.int (n : Int) := rr.sV_eq
      rw [eu] at hb
      exact .cons (.tup (SqT.of (w.sub _ _ hb)) (dp_i s)) (ih vs' ⟨Nat.succ.inj r.len, fun i v x q1 q2 => r.at_ (i + 1) v x q1 q2⟩)
theorem e_neP {Γ : Env} {ta tb : TE} {p : List (List Nat)} (ha : E ta Γ w (sPiece p)) (hb : E tb Γ w (sPiece p)) : E (tOp (rNeD K) ta tb) Γ w (sBl false) :=
  e_op ha hb fun w2 x y Q _ px py q => ⟨_, _, dp_p px, dp_p py, shaped_p p, shaped_p p, by
    have e : PyData.eqv (.list (datP p)) (.list (datP p)) = true := by rw [PyData.eqv]; exact eqv_p p
    rw [e]
    exact q _ w2 .refl rfl⟩
theorem e_neN3 {Γ : Env} {ta tb : TE} (ha : E ta Γ w (sT3 sNon sNon sNon)) (hb : E tb Γ w (sT3 sNon sNon sNon)) : E (tOp (rNeD K) ta tb) Γ w (sBl false) :=
  e_op ha hb fun w2 x y Q _ px py q => by
    have dp : ∀ v, (sT3 sNon sNon sNon).P w2.G v → Dp K w2.H v (.tuple [.none, .none, .none]) := fun v h => by
      obtain ⟨a, x, y, z, rfl, ha, h1, h2, h3⟩ := h
      cases h1
      cases h2
      cases h3
      exact .tup (SqT.of (w2.sub _ _ ha)) (.cons .non (.cons .non (.cons .non .nil)))
    exact ⟨_, _, dp x px, dp y py, by decide +kernel, by decide +kernel, by
      rw [show PyData.eqv (.tuple [.none, .none, .none]) (.tuple [.none, .none, .none]) = true by decide +kernel]
      exact q _ w2 .refl rfl⟩
end
section
variable {P : Program} {w : World} {K : PySem.W.Frag} {mg : Str → Option Value} {base : Heap}
def spLaw (K : PySem.W.Frag) : Sp := fun vs H Q _ => ∃ (a : Addr) (ns : List Int), vs = [.ref a] ∧ SqL K H a (ns.map V.int) ∧ ∀ H', Q (.bl true) H'
theorem ok_law (T : Txt K mg) : Ok_law P w K mg base (spLaw K) := by
  refine okF T.f_law sc_law (fun vs H Q E h => ?_) fun cdv A outer s H E hr => ⟨_, (pss_cons (ps_asg (pe_call (ok__law_parts T) (hr.mono (by decide)) rfl T.g__law_parts T.f__law_parts.kp T.b__law_parts .nil pass0 (pa_cons (pv 0) (pa_cons pe_int (pa_cons pe_int pa_nil)))) (pg_tup rfl (pgs_cons (pg_name (i := 1) sc_law.nd rfl (Or.inl rfl)) (pgs_cons (pg_name (i := 2) sc_law.nd rfl (Or.inl rfl)) (pgs_cons (pg_name (i := 3) sc_law.nd rfl (Or.inl rfl)) pgs_nil))))) (pss_cons (ps_setLc (i := 4) (own := [("_law_name", 14), ("_law_size", 15)]) (g := (gTup K 2 (gCons (gName 14) (gCons (gName 15) gNil)))) (tt := tYes) (te := (tVar 15)) rfl sc_law.nd rfl rfl (sw_true rfl rfl rfl (by decide +kernel)) (pi_list (pv 1)) (blkOk_by (own := [("_law_name", 14), ("_law_size", 15)]) (N := N_law) (sc := defScope st_law) (by decide +kernel)) (fun _ _ _ _ _ => (pg_tup rfl (pgs_cons (pg_name (i := 14) sc_law.nd rfl (Or.inl rfl)) (pgs_cons (pg_name (i := 15) sc_law.nd rfl (Or.inl rfl)) pgs_nil)))) (fun _ _ _ _ _ => pts_nil) (fun _ _ _ _ _ => (pv 15))) (pss_cons (ps_set (i := 5) sc_law.nd rfl (Or.inl rfl) (pe_make T.k_Machine (ok_Machine_init T) (hr.mono (by decide)) rfl T.g_Machine T.b_Machine_init .nil pass0 (pa_cons (pv 1) (pa_cons (pv 2) (pa_cons (pv 3) pa_nil))))) (pss_cons (ps_set (i := 6) sc_law.nd rfl (Or.inl rfl) (pe_call (ok__law_sketch T) (hr.mono (by decide)) rfl T.g__law_sketch T.f__law_sketch.kp T.b__law_sketch .nil pass0 (pa_cons (pe_call (ok__law_cell T) (hr.mono (by decide)) rfl T.g__law_cell T.f__law_cell.kp T.b__law_cell .nil pass0 (pa_cons (pv 0) (pa_cons pe_int pa_nil))) (pa_cons (pv 4) pa_nil)))) (pss_cons (ps_set (i := 7) sc_law.nd rfl (Or.inl rfl) (pe_call (ok__law_sketch T) (hr.mono (by decide)) rfl T.g__law_sketch T.f__law_sketch.kp T.b__law_sketch .nil pass0 (pa_cons (pe_call (ok__law_cell T) (hr.mono (by decide)) rfl T.g__law_cell T.f__law_cell.kp T.b__law_cell .nil pass0 (pa_cons (pv 0) (pa_cons pe_int pa_nil))) (pa_cons (pv 4) pa_nil)))) (pss_cons (ps_set (i := 8) sc_law.nd rfl (Or.inl rfl) (pe_call (ok__law_piece T) (hr.mono (by decide)) rfl T.g__law_piece T.f__law_piece.kp T.b__law_piece .nil pass0 (pa_cons (pe_call (ok__law_cell T) (hr.mono (by decide)) rfl T.g__law_cell T.f__law_cell.kp T.b__law_cell .nil pass0 (pa_cons (pv 0) (pa_cons pe_int pa_nil))) (pa_cons (pv 4) pa_nil)))) (pss_cons (ps_set (i := 9) sc_law.nd rfl (Or.inl rfl) (pe_callTy call_list_of (by rfl) T.n_list (by decide +kernel) (pa_cons (pv 8) pa_nil))) (pss_cons (ps_set (i := 10) sc_law.nd rfl (Or.inl rfl) (pe_call (ok_tell_between T) (hr.mono (by decide)) rfl T.g_tell_between T.f_tell_between.kp T.b_tell_between .nil pass0 (pa_cons (pv 5) (pa_cons (pv 6) (pa_cons (pv 7) (pa_cons (pv 9) pa_nil)))))) (pss_cons (ps_set (i := 11) sc_law.nd rfl (Or.inl rfl) (pe_call (ok__law_is_missing T) (hr.mono (by decide)) rfl T.g__law_is_missing T.f__law_is_missing.kp T.b__law_is_missing .nil pass0 (pa_cons (pv 2) (pa_cons (pv 3) (pa_cons (pv 6) (pa_cons (pv 7) (pa_cons (pv 8) pa_nil))))))) (pss_cons (ps_if (PW.pt (pw_or (pt_cmpR (op_neD hr.units) (pv 9) (pv 8) (nomark _)) (pw_or (pt_not (pt_val (pe_callB call_isi (by rfl) T.n_isinstance (by decide +kernel) (pa_cons (pe_fld (pv 10) rfl) (pa_cons (pe_bltn (v := .ty "bool") (by rfl) T.n_bool boot_bool rfl) pa_nil))))) (pw_or1 (pt_cmpR op_eq (pe_fld (pv 10) rfl) (pv 11) (nomark _)))))) (pss_one (ps_ret pe_bl)) pss_nil) (pss_cons (ps_if (pt_val (pe_fld (pv 10) rfl)) (pss_cons (ps_if (pt_cmpR (op_neD hr.units) (pe_tup (pa_cons (pe_fld (pv 10) rfl) (pa_cons (pe_fld (pv 10) rfl) (pa_cons (pe_fld (pv 10) rfl) pa_nil)))) (pe_tup (pa_cons pe_non (pa_cons pe_non (pa_cons pe_non pa_nil)))) (nomark _)) (pss_one (ps_ret pe_bl)) pss_nil) (pss_one (ps_ret (pe_call (ok__law_is_between T) (hr.mono (by decide)) rfl T.g__law_is_between T.f__law_is_between.kp T.b__law_is_between .nil pass0 (pa_cons (pv 2) (pa_cons (pv 4) (pa_cons (pv 3) (pa_cons (pv 6) (pa_cons (pv 7) (pa_cons (pv 8) (pa_cons (pe_fld (pv 10) rfl) pa_nil))))))))))) pss_nil) (pss_cons (ps_if (PW.pt (pw_or (pt_cmpR op_notN (pe_fld (pv 10) rfl) pe_non (nomark _)) (pw_or (pt_not (pt_val (pe_callB call_isi (by rfl) T.n_isinstance (by decide +kernel) (pa_cons (pe_fld (pv 10) rfl) (pa_cons (pe_bltn (v := .ty "tuple") (by rfl) T.n_tuple boot_tuple rfl) pa_nil))))) (pw_or1 (pt_not (pt_val (pe_call (ok__law_is_int T) (hr.mono (by decide)) rfl T.g__law_is_int T.f__law_is_int.kp T.b__law_is_int .nil pass0 (pa_cons (pe_fld (pv 10) rfl) pa_nil)))))))) (pss_one (ps_ret pe_bl)) pss_nil) (pss_cons (ps_if (PW.pt (pw_or (pt_not (pt_chain op_le op_le pe_int (pe_fld (pv 10) rfl) (pe_callB call_len_seq (by rfl) T.n_len boot_len (pa_cons (pe_fld (pv 10) rfl) pa_nil)))) (pw_or1 (pt_not (pt_val (pe_call (ok__law_is_history T) (hr.mono (by decide)) rfl T.g__law_is_history T.f__law_is_history.kp T.b__law_is_history .nil pass0 (pa_cons (pv 2) (pa_cons (pv 3) (pa_cons (pv 7) (pa_cons (pe_lst pa_nil) (pa_cons (pe_fld (pv 10) rfl) (pa_cons (pe_fld (pv 10) rfl) pa_nil)))))))))))) (pss_one (ps_ret pe_bl)) pss_nil) (pss_cons (ps_set (i := 12) sc_law.nd rfl (Or.inl rfl) (pe_fld (pv 10) rfl)) (pss_cons (ps_for PassesOwn.never rfl (pi_range1 rfl T.n_range (pa_cons (pe_op op_add (pe_callB call_len_seq (by rfl) T.n_len boot_len (pa_cons (pe_fld (pv 10) rfl) pa_nil)) pe_int) pa_nil)) (pg_name (i := 13) sc_law.nd rfl (Or.inl rfl)) (pss_cons (ps_if (PW.pt (pw_and (pt_cmpR op_eq (pv 13) (pe_fld (pv 10) rfl) (nomark _)) (pw_and1 (pt_not (pt_val (pe_call (ok__law_in T) (hr.mono (by decide)) rfl T.g__law_in T.f__law_in.kp T.b__law_in .nil pass0 (pa_cons (pv 6) (pa_cons (pv 12) pa_nil)))))))) (pss_one (ps_ret pe_bl)) pss_nil) (pss_cons (ps_if (PW.pt (pw_and (pt_cmpR op_ge (pv 13) (pe_fld (pv 10) rfl) (nomark _)) (pw_and1 (pt_val (pe_call (ok__law_has T) (hr.mono (by decide)) rfl T.g__law_has T.f__law_has.kp T.b__law_has .nil pass0 (pa_cons (pv 8) (pa_cons (pv 12) pa_nil))))))) (pss_one (ps_ret pe_bl)) pss_nil) (pss_one (ps_if (pt_cmpR op_lt (pv 13) (pe_callB call_len_seq (by rfl) T.n_len boot_len (pa_cons (pe_fld (pv 10) rfl) pa_nil)) (nomark _)) (pss_one (ps_set (i := 12) sc_law.nd rfl (Or.inl rfl) (pe_call (ok__law_after T) (hr.mono (by decide)) rfl T.g__law_after T.f__law_after.kp T.b__law_after .nil pass0 (pa_cons (pv 2) (pa_cons (pv 12) (pa_cons (pe_ix ix_tup (pe_fld (pv 10) rfl) (pv 13) (fun _ _ => rfl)) pa_nil)))))) pss_nil))))) (pss_one (ps_ret pe_bl))))))))))))))))), ?_⟩
  · obtain ⟨a, ns, rfl, _⟩ := h
    rfl
  rintro vs H Q ⟨a, ns, rfl, hS, k⟩
  let w0 : Wd := ⟨H, H, fun _ _ h => h, fun _ _ h => h⟩
  have k : ∀ v (w2 : Wd), v = V.bl true → Q v w2.H := fun v w2 e => by rw [e]; exact k w2.H
  have o : EnvOk w0.G (L2.start N_law [.ref a]) [some (sScr K ns), none, none, none, none, none, none, none, none, none, none, none, none, none, none, none] := args_start (G := w0.G) (ss := [sScr K ns]) (.cons ⟨a, rfl, hS⟩ .nil)
  -- machine
  refine q_let (w := w0) (R40.E.x o (e_call (ns, 3) trivial (ea_cons (e_var rfl) (ea_cons (e_n 3 3) (ea_cons (e_n 7 7) ea_nil))))) fun v1 w1 ⟨l1, x, hx, p1⟩ => ?_
  have hx : MachOk x := hx
  have p1 : (sT3 (sLst sNamed x.cells) (sLst sNDeed x.named) (sNs x.m.first)).P w1.G v1 := p1
  have hm := hx.ok
  have hz : SzOk x.m.sizes := ⟨hm.pos, hm.few, hm.size⟩
  have lc : x.cells.length = x.m.sizes.length := by rw [hx.sizes, List.length_map]
  have hfew := hm.few
  refine b_t3 (s := sLst sNamed x.cells) (t := sLst sNDeed x.named) (u := sNs x.m.first) (b_name (i := 1)) (b_name (i := 2)) (b_name (i := 3)) v1 _ w1 _ p1 (o.up l1) _ fun σ1 o1 _ _ => ?_
  have o1 : EnvOk w1.G σ1 [some (sScr K ns), some (sLst sNamed x.cells), some (sLst sNDeed x.named), some (sNs x.m.first), none, none, none, none, none, none, none, none, none, none, none, none] := o1
  refine q_set (s := sInts x.m.sizes) o1 (e_is (el_lcM (Z := fun n : Nat => sNat n) (fun p : Str × Nat => p.2) (i_list (R := sNamed) (xs := x.cells) (e_var rfl)) (by omega) (fun _ => b_t2 b_name b_name) (by decide) (fun p _ => e_var rfl)).e (by rw [← hx.sizes])) fun σ2 w2 l2 o2 => ?_
  have o2 : EnvOk w2.G σ2 [some (sScr K ns), some (sLst sNamed x.cells), some (sLst sNDeed x.named), some (sNs x.m.first), some (sInts x.m.sizes), none, none, none, none, none, none, none, none, none, none, none] := o2
  refine q_set (s := sMach K x.m) o2 (e_make x hx (ea_cons (e_var rfl) (ea_cons (e_var rfl) (ea_cons (e_var rfl) ea_nil)))) fun σ3 w3 l3 o3 => ?_
  have o3 : EnvOk w3.G σ3 [some (sScr K ns), some (sLst sNamed x.cells), some (sDeeds x.m.deeds), some (sNs x.m.first), some (sInts x.m.sizes), some (sMach K x.m), none, none, none, none, none, none, none, none, none, none] := o3.imp (i := 2) (s := sLst sNDeed x.named) rfl fun v h => by
    have z := lst_re (R := sNDeed) (S := sDeed) (f := fun p : Str × Deed => p.2) (xs := x.named) (fun G p v h => t3_re (fun _ _ _ => trivial) (fun _ _ h => h) (fun _ _ h => h) G v h) _ v h
    rw [← hx.deeds] at z
    exact z
  -- the question
  have ecell : ∀ {Γ : Env} {w : Wd} (i : Nat) (j : Int), j = (i : Int) → Γ[0]? = some (some (sScr K ns)) → R40.E (tCall (spLCell K) [] E0 (tCons (tVar 0) (tCons (tC (.int j)) tNil))) Γ w (sInt (cellI ns i)) := fun i j e h0 => e_call (ns, i) trivial (ea_cons (e_var h0) (ea_cons (e_n i j e) ea_nil))
  refine q_let (R40.E.x o3 (e_call (cellI ns 0, x.m.sizes) hz (ea_cons (ecell 0 0 rfl rfl) (ea_cons (e_var rfl) ea_nil)))) fun v4 w4 ⟨l4, ea, hea, p4⟩ => ?_
  have hea : OkSk x.m.sizes ea := hea
  refine b_name (i := 6) (s := sNs ea) v4 σ3 w4 _ p4 (o3.up l4) _ fun σ4 o4 _ _ => ?_
  have o4 : EnvOk w4.G σ4 [some (sScr K ns), some (sLst sNamed x.cells), some (sDeeds x.m.deeds), some (sNs x.m.first), some (sInts x.m.sizes), some (sMach K x.m), some (sNs ea), none, none, none, none, none, none, none, none, none] := o4
  refine q_let (R40.E.x o4 (e_call (cellI ns 1, x.m.sizes) hz (ea_cons (ecell 1 1 rfl rfl) (ea_cons (e_var rfl) ea_nil)))) fun v5 w5 ⟨l5, la, hla, p5⟩ => ?_
  have hla : OkSk x.m.sizes la := hla
  refine b_name (i := 7) (s := sNs la) v5 σ4 w5 _ p5 (o4.up l5) _ fun σ5 o5 _ _ => ?_
  have o5 : EnvOk w5.G σ5 [some (sScr K ns), some (sLst sNamed x.cells), some (sDeeds x.m.deeds), some (sNs x.m.first), some (sInts x.m.sizes), some (sMach K x.m), some (sNs ea), some (sNs la), none, none, none, none, none, none, none, none] := o5
  refine q_let (R40.E.x o5 (e_call (cellI ns 2, x.m.sizes) hz (ea_cons (ecell 2 2 rfl rfl) (ea_cons (e_var rfl) ea_nil)))) fun v6 w6 ⟨l6, piece, hpc, p6⟩ => ?_
  have hpc : PieceOk x.m piece := hpc
  refine b_name (i := 8) (s := sPiece piece) v6 σ5 w6 _ p6 (o5.up l6) _ fun σ6 o6 _ _ => ?_
  have o6 : EnvOk w6.G σ6 [some (sScr K ns), some (sLst sNamed x.cells), some (sDeeds x.m.deeds), some (sNs x.m.first), some (sInts x.m.sizes), some (sMach K x.m), some (sNs ea), some (sNs la), some (sPiece piece), none, none, none, none, none, none, none] := o6
  refine q_set (s := sPiece piece) o6 (el_listL (R := sNs) (e_var rfl)).e fun σ7 w7 l7 o7 => ?_
  have o7 : EnvOk w7.G σ7 [some (sScr K ns), some (sLst sNamed x.cells), some (sDeeds x.m.deeds), some (sNs x.m.first), some (sInts x.m.sizes), some (sMach K x.m), some (sNs ea), some (sNs la), some (sPiece piece), some (sPiece piece), none, none, none, none, none, none] := o7
  refine q_let (R40.E.x o7 (e_call (⟨x.m, ea, la, piece⟩ : TellIn) ⟨hm, hea, hla, hpc⟩ (ea_cons (e_var rfl) (ea_cons (e_var rfl) (ea_cons (e_var rfl) (ea_cons (e_var rfl) ea_nil)))))) fun v8 w8 ⟨l8, said, htells, p8⟩ => ?_
  have htells : Tells x.m ea la piece said := htells
  have p8 : (sAnswer K said).P w8.G v8 := p8
  refine b_name (i := 10) (s := sAnswer K said) v8 σ7 w8 _ p8 (o7.up l8) _ fun σ8 o8 _ _ => ?_
  have o8 : EnvOk w8.G σ8 [some (sScr K ns), some (sLst sNamed x.cells), some (sDeeds x.m.deeds), some (sNs x.m.first), some (sInts x.m.sizes), some (sMach K x.m), some (sNs ea), some (sNs la), some (sPiece piece), some (sPiece piece), some (sAnswer K said), none, none, none, none, none] := o8
  refine q_let (R40.E.x o8 (e_call (⟨x.m, ea, la, piece⟩ : TellIn) hm (ea_cons (e_var rfl) (ea_cons (e_var rfl) (ea_cons (e_var rfl) (ea_cons (e_var rfl) (ea_cons (e_var rfl) ea_nil))))))) fun v9 w9 ⟨l9, bad, hbad, p9⟩ => ?_
  have hbad : bad = true ↔ Missing x.m.deeds x.m.first ea la piece := hbad
  refine b_name (i := 11) (s := sBl bad) v9 σ8 w9 _ p9 (o8.up l9) _ fun σ9 o9 _ _ => ?_
  have o9 : EnvOk w9.G σ9 [some (sScr K ns), some (sLst sNamed x.cells), some (sDeeds x.m.deeds), some (sNs x.m.first), some (sInts x.m.sizes), some (sMach K x.m), some (sNs ea), some (sNs la), some (sPiece piece), some (sPiece piece), some (sAnswer K said), some (sBl bad), none, none, none, none] := o9
  have plen := hpc.len
  have tb : ∀ (b : Bool) (w : Wd) (v : V), (sBl b).P w.G v → TyX K w.H v (.type "bool") := fun b w v p => by
    cases p
    exact .base (.bl b)
  cases said with
  | told sks cover table links roots steps =>
    have hpap := told_paper hm hea hla plen htells
    have hnb : bad = false := by
      cases hb : bad with
      | false => rfl
      | true => exact absurd (hbad.mp hb) (paper_not hm hea hla plen hpap)
    subst hnb
    have aT : ∀ {Γ : Env} {w : Wd}, Γ[10]? = some (some (sAnswer K (.told sks cover table links roots steps))) → R40.E (tFld K (tVar 10) "told") Γ w (sBl true) := fun h => e_fld T.c_BetweenAnswer T.a_BetweenAnswer_told rfl (e_var (s := sAnswer K (.told sks cover table links roots steps)) h)
    refine q_skip o9 (t_or (t_test (e_neP (p := piece) (e_var rfl) (e_var rfl))) fun _ => t_or (t_not (t_B (e_isi (.type "bool") (tb true) isi_bool (aT rfl)))) fun _ => t_test (e_eq (x := .bl true) (y := .bl false) rfl (aT rfl) (e_var (s := sBl false) rfl))) (by decide) fun w10 l10 o10 => ?_
    refine q_if o10 (t_B (aT rfl)) (fun _ w11 l11 o11 => ?_) (fun q => nomatch q)
    refine q_skip o11 (t_test (e_neN3 (e_tup3 (e_fld T.c_BetweenAnswer T.a_BetweenAnswer_disk rfl (e_var (s := sAnswer K (.told sks cover table links roots steps)) rfl)) (e_fld T.c_BetweenAnswer T.a_BetweenAnswer_deeds rfl (e_var (s := sAnswer K (.told sks cover table links roots steps)) rfl)) (e_fld T.c_BetweenAnswer T.a_BetweenAnswer_moment rfl (e_var (s := sAnswer K (.told sks cover table links roots steps)) rfl))) (e_tup3 e_c e_c e_c))) rfl fun w12 l12 o12 => ?_
    exact s_ret o12 (e_call (⟨x.m, ea, la, piece, ⟨sks, cover, table, links, roots, steps⟩⟩ : PaIn) ⟨hm, hea, hla, hpc, hpap⟩ (ea_cons (e_var rfl) (ea_cons (e_var rfl) (ea_cons (e_var rfl) (ea_cons (e_var rfl) (ea_cons (e_var rfl) (ea_cons (e_var rfl) (ea_cons (e_fld T.c_BetweenAnswer T.a_BetweenAnswer_paper rfl (e_var (s := sAnswer K (.told sks cover table links roots steps)) rfl)) ea_nil)))))))) fun v w13 _ p => k v w13 p
  | not disk ds moment =>
    have hh := not_hist hm hea hla plen htells
    have hnb : bad = true := hbad.mpr (hist_missing hm hea hh)
    subst hnb
    have hmom := hh.mom
    have aT : ∀ {Γ : Env} {w : Wd}, Γ[10]? = some (some (sAnswer K (.not disk ds moment))) → R40.E (tFld K (tVar 10) "told") Γ w (sBl false) := fun h => e_fld T.c_BetweenAnswer T.a_BetweenAnswer_told rfl (e_var (s := sAnswer K (.not disk ds moment)) h)
    have aP : ∀ {Γ : Env} {w : Wd}, Γ[10]? = some (some (sAnswer K (.not disk ds moment))) → R40.E (tFld K (tVar 10) "paper") Γ w sNon := fun h => e_fld T.c_BetweenAnswer T.a_BetweenAnswer_paper rfl (e_var (s := sAnswer K (.not disk ds moment)) h)
    have aK : ∀ {Γ : Env} {w : Wd}, Γ[10]? = some (some (sAnswer K (.not disk ds moment))) → R40.E (tFld K (tVar 10) "disk") Γ w (sNs disk) := fun h => e_fld T.c_BetweenAnswer T.a_BetweenAnswer_disk rfl (e_var (s := sAnswer K (.not disk ds moment)) h)
    have aD : ∀ {Γ : Env} {w : Wd}, Γ[10]? = some (some (sAnswer K (.not disk ds moment))) → R40.E (tFld K (tVar 10) "deeds") Γ w (sNs ds) := fun h => e_fld T.c_BetweenAnswer T.a_BetweenAnswer_deeds rfl (e_var (s := sAnswer K (.not disk ds moment)) h)
    have aM : ∀ {Γ : Env} {w : Wd}, Γ[10]? = some (some (sAnswer K (.not disk ds moment))) → R40.E (tFld K (tVar 10) "moment") Γ w (sNat moment) := fun h => e_fld T.c_BetweenAnswer T.a_BetweenAnswer_moment rfl (e_var (s := sAnswer K (.not disk ds moment)) h)
    refine q_skip o9 (t_or (t_test (e_neP (p := piece) (e_var rfl) (e_var rfl))) fun _ => t_or (t_not (t_B (e_isi (.type "bool") (tb false) isi_bool (aT rfl)))) fun _ => t_test (e_eq (x := .bl false) (y := .bl true) rfl (aT rfl) (e_var (s := sBl true) rfl))) (by decide) fun w10 l10 o10 => ?_
    refine q_if o10 (t_B (aT rfl)) (fun q => nomatch q) (fun _ w11 l11 o11 => ?_)
    refine q_skip o11 (t_or (t_test (e_notN (s := sNon) false (fun G v p => by rw [show v = V.non from p]; rfl) (aP rfl))) fun _ => t_or (t_not (t_B (e_isTup (aD rfl)))) fun _ => t_not (t_B (e_call (moment : Int) trivial (ea_cons (aM rfl) ea_nil)))) rfl fun w12 l12 o12 => ?_
    refine q_skip o12 (t_or (t_not (t_test (e_chain (g := fun i j => decide (i ≤ j)) (g' := fun i j => decide (i ≤ j)) (i := 0) (j := (moment : Int)) (k := (ds.length : Int)) e_c (aM rfl) fun _ => e_lenT (aD rfl)))) fun _ => t_not (t_B (e_call (⟨x.m, la, disk, ds⟩ : HiIn) ⟨hm, hh.dk, hh.first, hh.run, hh.last⟩ (ea_cons (e_var rfl) (ea_cons (e_var rfl) (ea_cons (e_var rfl) (ea_cons (el_nil (R := sNs)).e (ea_cons (aK rfl) (ea_cons (aD rfl) ea_nil))))))))) ?_ fun w13 l13 o13 => ?_
    · show (!(decide ((0 : Int) ≤ (moment : Int)) && decide ((moment : Int) ≤ (ds.length : Int))) || !true) = false
      rw [decide_eq_true (by omega), decide_eq_true (by omega)]
      rfl
    have hfd := hh.few
    refine q_set (s := sNs (runF x.m.deeds disk (ds.take 0))) o13 (aK rfl) fun σ14 w14 l14 o14 => ?_
    have o14 : EnvOk w14.G σ14 [some (sScr K ns), some (sLst sNamed x.cells), some (sDeeds x.m.deeds), some (sNs x.m.first), some (sInts x.m.sizes), some (sMach K x.m), some (sNs ea), some (sNs la), some (sPiece piece), some (sPiece piece), some (sAnswer K (.not disk ds moment)), some (sBl true), some (sNs (runF x.m.deeds disk (ds.take 0))), none, none, none] := o14
    refine q_for o14 (i_range1 (n := ds.length + 1) (by omega) (e_plus (e_lenT (aD rfl)) (e_n 1 1))) (fun _ => b_name)
      (fun i => [some (sScr K ns), some (sLst sNamed x.cells), some (sDeeds x.m.deeds), some (sNs x.m.first), some (sInts x.m.sizes), some (sMach K x.m), some (sNs ea), some (sNs la), some (sPiece piece), some (sPiece piece), some (sAnswer K (.not disk ds moment)), some (sBl true), some (sNs (runF x.m.deeds disk (ds.take i))), none, none, none])
      (fun _ _ => True) (fun _ _ _ _ _ => trivial) (fun u lu ou => ⟨ou, trivial⟩) (fun i j σ15 u hj o15 _ N hN => ?_) (fun σ15 u o15 _ => s_ret o15 e_c fun v w16 _ p => k v w16 p)
    obtain ⟨ej, hi⟩ := range_at hj
    subst ej
    have hdk := run_okd hm.deed (ds.take j) disk hh.dk
    have o15 : EnvOk u.G σ15 [some (sScr K ns), some (sLst sNamed x.cells), some (sDeeds x.m.deeds), some (sNs x.m.first), some (sInts x.m.sizes), some (sMach K x.m), some (sNs ea), some (sNs la), some (sPiece piece), some (sPiece piece), some (sAnswer K (.not disk ds moment)), some (sBl true), some (sNs (runF x.m.deeds disk (ds.take j))), some (sNat j), none, none] := o15
    refine q_skip o15 (t_and (t_eqN (a := j) (b := moment) (e_var rfl) (aM rfl)) fun _ => t_not (t_B (e_call (ea, runF x.m.deeds disk (ds.take j)) trivial (ea_cons (e_var rfl) (ea_cons (e_var rfl) ea_nil))))) ?_ fun u1 l1 o16 => ?_
    · show ((j == moment) && !inF ea (runF x.m.deeds disk (ds.take j))) = false
      cases q : (j == moment) with
      | false => rfl
      | true =>
        rw [show j = moment by simpa using q, hh.earlier]
        rfl
    refine q_skip o16 (t_and (t_geN (a := j) (b := moment) (e_var rfl) (aM rfl)) fun _ => t_B (e_call (piece, runF x.m.deeds disk (ds.take j)) trivial (ea_cons (e_var rfl) (ea_cons (e_var rfl) ea_nil)))) ?_ fun u2 l2 o17 => ?_
    · show (decide (moment ≤ j) && hasF piece (runF x.m.deeds disk (ds.take j))) = false
      by_cases q : moment ≤ j
      · rw [hh.clean j q (by omega), Bool.and_false]
      · rw [decide_eq_false q, Bool.false_and]
    refine s_if o17 (t_ltN (a := j) (b := ds.length) (e_var rfl) (e_lenT (aD rfl))) (fun q u3 l3 o18 => ?_) (fun q u3 l3 o18 => ?_)
    · have hlt : j < ds.length := of_decide_eq_true q
      obtain ⟨n, hn⟩ : ∃ n, ds[j]? = some n := ⟨_, List.getElem?_eq_getElem hlt⟩
      obtain ⟨e, he, _⟩ := hh.run.at_ j n hn
      have at_ : AtOk ⟨x.m.sizes, x.m.deeds, runF x.m.deeds disk (ds.take j), n, e⟩ := ⟨he, hm.deed e (List.mem_of_getElem? he), hdk.1⟩
      refine s_set (s := sNs (afterF (runF x.m.deeds disk (ds.take j)) e)) o18 (e_call (⟨x.m.sizes, x.m.deeds, runF x.m.deeds disk (ds.take j), n, e⟩ : AtDeed) at_ (ea_cons (e_var rfl) (ea_cons (e_var rfl) (ea_cons (e_ixT (R := fun n : Nat => sNat n) (i := j) hn (aD rfl) (e_var rfl)) ea_nil)))) fun σ19 u4 l4 o19 => ?_
      refine hN σ19 u4 _ o19 (fun o => ?_) trivial fun a o q => l4.g a o (l3.g a o (l2.g a o (l1.g a o q)))
      rw [run_succ hn he]
      exact o.drop 13
    · have hge : ¬ j < ds.length := of_decide_eq_false q
      have e1 : ds.take (j + 1) = ds.take j := by rw [List.take_of_length_le (by omega), List.take_of_length_le (by omega)]
      refine hN σ15 u3 _ o18 (fun o => ?_) trivial fun a o q => l3.g a o (l2.g a o (l1.g a o q))
      rw [e1]
      exact o.drop 13
end
end R40

set_option Elab.async false
set_option linter.all false
set_option maxRecDepth 100000
set_option maxHeartbeats 0
/-! The head: what the run of the top leaves; the end. -/
namespace R40
open PySem PySem.Spec PyProof.Rows L2
/-- the getter of Machine.full, as the Hook sees it -/
def fullB (K : PySem.W.Frag) : Bool := He.eqO (PySem.W.findIn K (.ref (He.ga K "Machine")) "full") (some (some (.ref (fullP K)))) && (He.eqO (PySem.W.specialIn K (.ref (fullP K)) "__get__") (some (some (.builtin "property.__get__"))) &&
  (decide (PySem.W.takesIn K (.ref (fullP K)) = some true) && ((match PySem.W.recIn K (fullP K) "property" with
    | some (.ref _ :: _) => true
    | _ => false) && (PySem.W.keepIn K (.ref (fullA K)) && (match K.lookup (fullA K) with
    | some ⟨_, _, .func fd, _⟩ => PySem.W.codeIn K fd.code "Machine.full" && (He.dflB K fd.defaults [] && He.kwdB K fd.kwdefaults [])
    | _ => false)))))
def fullW (K : PySem.W.Frag) : He.FnW := match K.lookup (fullA K) with
  | some ⟨_, _, .func fd, _⟩ => some (fd.name, fd.qualname, fd.params, fd.body, fd.scope, fd.globals, fd.closure, fd.builtins)
  | _ => none
def fullV : He.FnW := some (("full" : Str), ("Machine.full" : Str), defArgs st_Machine_full, .stmts (defBody st_Machine_full), defScope st_Machine_full, mainGlobals, [], builtinsNs)
theorem full_ok {K : PySem.W.Frag} (c : fullB K = true) (e : fullW K = fullV) : Full K := by
  obtain ⟨c1, c⟩ := He.ba c
  obtain ⟨c2, c⟩ := He.ba c
  obtain ⟨c3, c⟩ := He.ba c
  obtain ⟨c4, c⟩ := He.ba c
  obtain ⟨kp, c5⟩ := He.ba c
  refine ⟨⟨He.eqO_ok c1, He.eqO_ok c2, of_decide_eq_true c3, ?_⟩, ?_⟩
  · unfold fullA
    cases q : PySem.W.recIn K (fullP K) "property" with
    | none =>
      rw [q] at c4
      cases c4
    | some l =>
      rw [q] at c4
      cases l with
      | nil => cases c4
      | cons v r =>
        cases v with
        | ref g => exact ⟨r, rfl⟩
        | _ => cases c4
  · unfold fullW fullV at e
    cases q : K.lookup (fullA K) with
    | none =>
      rw [q] at c5
      cases c5
    | some o =>
      obtain ⟨oc, od, dt, osl⟩ := o
      rw [q] at c5 e
      cases dt with
      | func fd =>
        obtain ⟨n1, n2, n3, n4, n5, n6, n7, n8, n9, n10, n11, n12, n13, n14, n15⟩ := fd
        have e2 : (some (n1, n2, n3, n4, n5, n6, n7, n15) : He.FnW) = some (("full" : Str), ("Machine.full" : Str), defArgs st_Machine_full, .stmts (defBody st_Machine_full), defScope st_Machine_full, mainGlobals, [], builtinsNs) := e
        simp only [Option.some.injEq, Prod.mk.injEq] at e2
        obtain ⟨h1, h2, h3, h4, h5, h6, h7, h8⟩ := e2
        subst h1 h2 h3 h4 h5 h6 h7 h8
        have c3 : (PySem.W.codeIn K n13 "Machine.full" && (He.dflB K n8 [] && He.kwdB K n9 [])) = true := c5
        obtain ⟨k1, k2⟩ := He.ba c3
        obtain ⟨k3, k4⟩ := He.ba k2
        exact ⟨_, ⟨oc, od, n8, n9, n10, n11, n12, n13, n14, osl, rfl, q, k1, He.dflB_ok k3, He.kwdB_ok k4⟩, kp⟩
      | _ => cases c5
abbrev Al : Type := He.AlD × Bool × He.FnW
def obsK (K : PySem.W.Frag) : Al := (He.obsD faL fnL K, fullB K, fullW K)
def valK : Al := (He.valD fnL, true, fullV)
def obsT (g : Addr → Option Obj) : Al := obsK (He.frG g (He.asD g 5))
def hk : PySem.W.Hook where
  α := Al
  obs := fun s => obsT s.heap.get?
  val := fun _ => valK
  says := fun _ h => ∃ K : PySem.W.Frag, K.In h ∧ obsK K = valK
  of := fun _ _ e => ⟨_, He.frG_in, e⟩
  keeps := fun _ _ _ ⟨K, hK, c⟩ k => ⟨K, PySem.W.Frag.In.keeps hK k, c⟩
def ob (s : PySem.W.SharedT) : Al := obsT (HandSHeadRun.getT s)
theorem ob_eq (s : PySem.W.SharedT) : ob s = hk.obs s.abs := by
  have e : HandSHeadRun.getT s = s.abs.heap.get? := funext (HandSHeadRun.getT_eq s)
  show obsT (HandSHeadRun.getT s) = obsT s.abs.heap.get?
  rw [e]
abbrev TheRow : PySem.W.OpenRow := PySem.W.OpenLaw.row PySem.Challenge.rw_raisedwreck_k40_whole_between
abbrev qv : Program := PySem.W.view TheRow.prog [68]
def names1 : List PySem.Str := ["WreckError", "InvalidMachine", "InvalidSketch", "NoSuchDeed", "MOST_CELLS", "MOST_VALUES", "MOST_DEEDS", "LONGEST_NAME", "LOWER", "DIGITS", "is_name", "_check_names", "is_mask", "_check_order", "Machine", "check_sketch", "sketch_before", "meet", "_split", "without", "values_of", "least_disk", "Paper", "check_question", "packed_sketch", "Search", "BetweenPaper", "BetweenAnswer", "_check_questions", "_closed_rows"]
def names2 : List PySem.Str := ["_way", "_start", "tell_between", "_law_cell", "_law_mix", "_law_row", "_law_is_int", "_law_mask", "_law_deed", "_law_parts", "_law_sketch", "_law_piece", "_law_in", "_law_has", "_law_disks", "_law_can", "_law_after", "_law_steps", "_law_least", "_law_meet", "_law_split", "_law_without", "_law_before", "_law_included", "_law_covers", "_law_are_sketches", "_law_is_closed", "_law_is_paper", "_law_is_history", "_law_is_between", "_law_is_missing"]
theorem run (w : World) : HandSHeadRun.RunEq TheRow qv hk ob 6000 (names1 ++ names2) w := by
  intro os
  kernel_rfl
theorem txt_of {K : PySem.W.Frag} {h : Heap} {mg : Str → Option Value} (X : K.In h) (G : h.Ns mainGlobals mg) (c : obsK K = valK) : Txt K mg :=
  ⟨⟨congrArg (fun z : Al => z.1) c, full_ok (congrArg (fun z : Al => z.2.1) c) (congrArg (fun z : Al => z.2.2) c)⟩, h, X, G⟩
theorem facts {P : Program} {w : World} {K : PySem.W.Frag} {h : Heap} {mg : Str → Option Value} {f : Addr} (X : K.In h) (G : h.Ns mainGlobals mg) (hfa : mg ("law" : Str) = some (.ref f)) (c : obsK K = valK) :
    ∃ fd : FuncData, (∀ (s : Shared) (v : Value), BindsTo s fd ⟨[v], []⟩ [("_law_script", v)]) ∧ ∀ base : Heap, K.In base → base.Ns mainGlobals mg → FnOk P w K mg base CX0 8 f fd ["_law_script"] (spLaw K) := by
  have T : Txt K mg := txt_of X G c
  have e := hfa.symm.trans T.g_law
  cases e
  have b := FunD.bindsA (ps := ["_law_script"]) T.f_law fun _ _ _ _ _ _ us hl => match us, hl with | [_], _ => rfl
  exact ⟨_, fun s v => b s [v] rfl, fun base _ _ => ok_law T⟩
end R40

set_option Elab.async false
set_option linter.all false
set_option maxRecDepth 100000
set_option maxHeartbeats 0
open PySem PySem.W PySem.Calls PyProof.Rows
theorem PySem.Challenge.cw_raisedwreck_k40_whole_between_holds : PySem.Challenge.rw_raisedwreck_k40_whole_between.Holds := by
  w_on; o_law
  refine HandSHeadRun.head_any (r := OpenLaw.row PySem.Challenge.rw_raisedwreck_k40_whole_between) (q := view (OpenLaw.row PySem.Challenge.rw_raisedwreck_k40_whole_between).prog [68]) (H := R40.hk) (ob := R40.ob) (M := 6000) (loose := R40.names1 ++ R40.names2)
    (d := HandSHeadRun.topDef (OpenLaw.row PySem.Challenge.rw_raisedwreck_k40_whole_between).prog 68) (kwd := []) R40.ob_eq
    (by kernel_rfl) (fun s => by kernel_rfl) R40.run (by kernel_rfl) (by kernel_rfl) (by kernel_rfl) (by rfl) (by first | assumption | decide +kernel) (by decide +kernel) ⟨rfl, rfl, rfl, rfl, rfl, by decide +kernel⟩ ?hw ?hc
  case hw => w_witness2
  case hc =>
    refine L2.walk_ofE (l := PySem.Challenge.rw_raisedwreck_k40_whole_between) (n := 63) (k := 8) (x := "_law_script") (CX := L2.CX0) rfl (by decide) (by kernel_rfl) ⟨rfl, by decide, by decide⟩ ?F (fun _ _ _ _ z => z)
    intro w mg fa h Y G hmg0
    obtain ⟨K, KX, c⟩ := Y
    have hmg : mg ("law" : PySem.Str) = some (.ref fa) := by
      have e : (HandSHeadRun.topDef (OpenLaw.row PySem.Challenge.rw_raisedwreck_k40_whole_between).prog 68).name = ("law" : PySem.Str) := by kernel_rfl
      rw [← e]
      exact hmg0
    obtain ⟨fd, hb, hF⟩ := R40.facts (P := (PySem.Challenge.rw_raisedwreck_k40_whole_between).prog) (w := w) KX G hmg c
    exact ⟨K, fd, R40.spLaw K, KX, hb, fun H a ns hl _ hS => ⟨a, ns, rfl, hS, fun _ => rfl⟩, hF⟩
