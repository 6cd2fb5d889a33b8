import PyProof.Rows.All
import Wide.All
import OpenK.AllK
import Wide.FinOn
import PySem.Challenge.RW_twokeys_k33_whole_runs_stretched
import HandS.ForMost
import HandS.ForExc
import HandS.Wide
import HandS.IsInst
import HandS.More
import HandS.TupLe
import HandS.Zip
import HandS.Style
import KE.KDictCopyH
set_option Elab.async false
set_option linter.all false
set_option autoImplicit false
set_option maxRecDepth 100000
set_option maxHeartbeats 4000000
/-! Data over the abstract heap: what a value stands for, slots that own lists and dicts, and what expressions and statements come to. -/
namespace Dn
open PySem L2
open Classical (propDecidable)

abbrev PD := PyData
/-! ### results -/
inductive R (a : Type) where
  | ok (x : a)
  | exc (c : Str)
  | stuck
namespace R
def bind {a b : Type} (r : R a) (f : a → R b) : R b := match r with
  | .ok x => f x
  | .exc c => .exc c
  | .stuck => .stuck
@[simp] theorem bind_ok {a b : Type} (x : a) (f : a → R b) : R.bind (.ok x) f = f x := rfl
@[simp] theorem bind_exc {a b : Type} (c : Str) (f : a → R b) : R.bind (.exc c) f = .exc c := rfl
@[simp] theorem bind_stuck {a b : Type} (f : a → R b) : R.bind .stuck f = .stuck := rfl
def noexc {a : Type} : R a → R a
  | .exc _ => .stuck
  | r => r
@[simp] theorem noexc_ok {a : Type} (x : a) : R.noexc (.ok x) = .ok x := rfl
end R

/-! ### what a value stands for -/
def kD : Key → PD
  | .inl i => .int i
  | .inr x => .str x
mutual
inductive Rp (K : PySem.W.Frag) (H : Hp) : V → PD → Prop
  | non : Rp K H .non .none
  | bl (b : Bool) : Rp K H (.bl b) (.bool b)
  | int (i : Int) : Rp K H (.int i) (.int i)
  | str (x : Str) : Rp K H (.str x) (.str x)
  | lst {a : Addr} {xs : List V} {ds : List PD} : H a = some (.lst xs) → RpA K H xs ds → Rp K H (.ref a) (.list ds)
  | tup {a : Addr} {xs : List V} {ds : List PD} : SqT K H a xs → RpA K H xs ds → Rp K H (.ref a) (.tuple ds)
  | dct {a : Addr} {kvs : List (Key × V)} {es : List (PD × PD)} : Rd H a (.dK kvs) → RpK K H kvs es → Rp K H (.ref a) (.dict es)
inductive RpA (K : PySem.W.Frag) (H : Hp) : List V → List PD → Prop
  | nil : RpA K H [] []
  | cons {v : V} {vs : List V} {d : PD} {ds : List PD} : Rp K H v d → RpA K H vs ds → RpA K H (v :: vs) (d :: ds)
inductive RpK (K : PySem.W.Frag) (H : Hp) : List (Key × V) → List (PD × PD) → Prop
  | nil : RpK K H [] []
  | cons {k : Key} {v : V} {vs : List (Key × V)} {d : PD} {ds : List (PD × PD)} : Rp K H v d → RpK K H vs ds → RpK K H ((k, v) :: vs) ((kD k, d) :: ds)
end

/-- what is read stays -/
structure LeR (K : PySem.W.Frag) (H H' : Hp) : Prop where
  l : ∀ a xs, H a = some (.lst xs) → H' a = some (.lst xs)
  t : ∀ a xs, SqT K H a xs → SqT K H' a xs
  d : ∀ a kvs, Rd H a (.dK kvs) → Rd H' a (.dK kvs)
mutual
theorem Rp.mono {K : PySem.W.Frag} {H H' : Hp} (e : LeR K H H') : ∀ {v : V} {d : PD}, Rp K H v d → Rp K H' v d
  | _, _, .non => .non
  | _, _, .bl b => .bl b
  | _, _, .int i => .int i
  | _, _, .str x => .str x
  | _, _, .lst h r => .lst (e.l _ _ h) (RpA.mono e r)
  | _, _, .tup h r => .tup (e.t _ _ h) (RpA.mono e r)
  | _, _, .dct h r => .dct (e.d _ _ h) (RpK.mono e r)
theorem RpA.mono {K : PySem.W.Frag} {H H' : Hp} (e : LeR K H H') : ∀ {v : List V} {d : List PD}, RpA K H v d → RpA K H' v d
  | _, _, .nil => .nil
  | _, _, .cons h r => .cons (Rp.mono e h) (RpA.mono e r)
theorem RpK.mono {K : PySem.W.Frag} {H H' : Hp} (e : LeR K H H') : ∀ {v : List (Key × V)} {d : List (PD × PD)}, RpK K H v d → RpK K H' v d
  | _, _, .nil => .nil
  | _, _, .cons h r => .cons (Rp.mono e h) (RpK.mono e r)
end
theorem RpA.length {K : PySem.W.Frag} {H : Hp} : ∀ {vs : List V} {ds : List PD}, RpA K H vs ds → vs.length = ds.length
  | _, _, .nil => rfl
  | _, _, .cons _ r => by simp [r.length]
theorem RpK.length {K : PySem.W.Frag} {H : Hp} : ∀ {vs : List (Key × V)} {ds : List (PD × PD)}, RpK K H vs ds → vs.length = ds.length
  | _, _, .nil => rfl
  | _, _, .cons _ r => by simp [r.length]
theorem RpA.app {K : PySem.W.Frag} {H : Hp} : ∀ {vs ws : List V} {ds es : List PD}, RpA K H vs ds → RpA K H ws es → RpA K H (vs ++ ws) (ds ++ es)
  | _, _, _, _, .nil, s => s
  | _, _, _, _, .cons h r, s => .cons h (RpA.app r s)
theorem RpA.get {K : PySem.W.Frag} {H : Hp} : ∀ {vs : List V} {ds : List PD} {i : Nat} {d : PD}, RpA K H vs ds → ds[i]? = some d → ∃ v, vs[i]? = some v ∧ Rp K H v d
  | _, _, _, _, .nil, h => by simp at h
  | _, _, 0, _, .cons h _, e => by simp at e; subst e; exact ⟨_, rfl, h⟩
  | _, _, i + 1, _, .cons _ r, e => by
    obtain ⟨v, h1, h2⟩ := RpA.get (i := i) r (by simpa using e)
    exact ⟨v, by simpa using h1, h2⟩
theorem RpA.getV {K : PySem.W.Frag} {H : Hp} : ∀ {vs : List V} {ds : List PD} {i : Nat} {v : V}, RpA K H vs ds → vs[i]? = some v → ∃ d, ds[i]? = some d ∧ Rp K H v d
  | _, _, _, _, .nil, h => by simp at h
  | _, _, 0, _, .cons h _, e => by simp at e; subst e; exact ⟨_, rfl, h⟩
  | _, _, i + 1, _, .cons _ r, e => by
    obtain ⟨v, h1, h2⟩ := RpA.getV (i := i) r (by simpa using e)
    exact ⟨v, by simpa using h1, h2⟩
theorem RpA.take {K : PySem.W.Frag} {H : Hp} : ∀ (n : Nat) {vs : List V} {ds : List PD}, RpA K H vs ds → RpA K H (vs.take n) (ds.take n)
  | 0, _, _, _ => by simp; exact .nil
  | _ + 1, _, _, .nil => .nil
  | n + 1, _, _, .cons h r => .cons h (RpA.take n r)
theorem RpA.drop {K : PySem.W.Frag} {H : Hp} : ∀ (n : Nat) {vs : List V} {ds : List PD}, RpA K H vs ds → RpA K H (vs.drop n) (ds.drop n)
  | 0, _, _, h => h
  | _ + 1, _, _, .nil => .nil
  | n + 1, _, _, .cons _ r => RpA.drop n r
theorem RpA.set {K : PySem.W.Frag} {H : Hp} {v : V} {d : PD} (h : Rp K H v d) : ∀ (n : Nat) {vs : List V} {ds : List PD}, RpA K H vs ds → RpA K H (vs.set n v) (ds.set n d)
  | _, _, _, .nil => .nil
  | 0, _, _, .cons _ r => .cons h r
  | n + 1, _, _, .cons g r => .cons g (RpA.set h n r)
theorem RpA.erase {K : PySem.W.Frag} {H : Hp} : ∀ (n : Nat) {vs : List V} {ds : List PD}, RpA K H vs ds → RpA K H (vs.eraseIdx n) (ds.eraseIdx n)
  | _, _, _, .nil => .nil
  | 0, _, _, .cons _ r => r
  | n + 1, _, _, .cons g r => .cons g (RpA.erase n r)
theorem RpA.reverse {K : PySem.W.Frag} {H : Hp} : ∀ {vs : List V} {ds : List PD}, RpA K H vs ds → RpA K H vs.reverse ds.reverse
  | _, _, .nil => .nil
  | _, _, .cons h r => by
    rw [List.reverse_cons, List.reverse_cons]
    exact r.reverse.app (.cons h .nil)
theorem RpA.rep {K : PySem.W.Frag} {H : Hp} {vs : List V} {ds : List PD} (h : RpA K H vs ds) : ∀ (n : Nat), RpA K H (List.replicate n vs).flatten (List.replicate n ds).flatten
  | 0 => .nil
  | n + 1 => by
    rw [List.replicate_succ, List.replicate_succ, List.flatten_cons, List.flatten_cons]
    exact h.app (RpA.rep h n)

/-! ### heaps -/
def Ex (H H' : Hp) : Prop := ∀ a o, H a = some o → H' a = some o
theorem Ex.refl (H : Hp) : Ex H H := fun _ _ h => h
theorem Ex.trans {H H1 H2 : Hp} (a : Ex H H1) (b : Ex H1 H2) : Ex H H2 := fun x o h => b x o (a x o h)
theorem Ex.new {H : Hp} {p : Addr} {o : HO} (h : H p = none) : Ex H (upd H p o) := fun a u e => by
  rw [upd_ne (ne_of_none e h)]
  exact e
theorem Ex.mut {H H' : Hp} {p : Addr} {o : HO} (e : Ex H H') (h : H p = none) : Ex H (upd H' p o) := fun a u ha => by
  rw [upd_ne (ne_of_none ha h)]
  exact e a u ha
theorem Ex.back {H H' : Hp} {p : Addr} (e : Ex H H') (h : H' p = none) : H p = none := by
  cases h1 : H p with
  | none => rfl
  | some o =>
    rw [e p o h1] at h
    cases h
theorem Ex.rd {H H' : Hp} {a : Addr} {u : HO} (e : Ex H H') (h : Rd H a u) : Rd H' a u := by
  rcases h with h | ⟨o, h⟩
  · exact Or.inl (e a _ h)
  · exact Or.inr ⟨o, e a _ h⟩
theorem Ex.sqt {K : PySem.W.Frag} {H H' : Hp} {a : Addr} {xs : List V} (e : Ex H H') (h : SqT K H a xs) : SqT K H' a xs := by
  rcases h with h | h
  · exact Or.inl (e.rd h)
  · exact Or.inr h
theorem Ex.sql {K : PySem.W.Frag} {H H' : Hp} {a : Addr} {xs : List V} (e : Ex H H') (h : SqL K H a xs) : SqL K H' a xs := by
  rcases h with h | h
  · exact Or.inl (e.rd h)
  · exact Or.inr h
theorem Ex.le {K : PySem.W.Frag} {H H' : Hp} (e : Ex H H') : LeR K H H' := ⟨fun a xs h => e a _ h, fun _ _ h => e.sqt h, fun _ _ h => e.rd h⟩

abbrev AS := Addr → Prop
open Classical in
/-- the heap without a set of places -/
noncomputable def hid (H : Hp) (Z : AS) : Hp := fun a => if Z a then none else H a
theorem hid_no {H : Hp} {Z : AS} {a : Addr} (h : Z a) : hid H Z a = none := by
  unfold hid
  rw [if_pos h]
theorem hid_at {H : Hp} {Z : AS} {a : Addr} (h : ¬ Z a) : hid H Z a = H a := by
  unfold hid
  rw [if_neg h]
theorem hid_some {H : Hp} {Z : AS} {a : Addr} {o : HO} (h : hid H Z a = some o) : ¬ Z a ∧ H a = some o := by
  by_cases z : Z a
  · rw [hid_no z] at h
    cases h
  · rw [hid_at z] at h
    exact ⟨z, h⟩
theorem hid_ex {H : Hp} {Z : AS} : Ex (hid H Z) H := fun _ _ h => (hid_some h).2
theorem Ex.hid {H H' : Hp} {Z : AS} (e : Ex H H') : Ex (hid H Z) (hid H' Z) := fun a o h => by
  obtain ⟨z, h⟩ := hid_some h
  rw [hid_at z]
  exact e a o h
theorem Ex.hidLess {H H' : Hp} {Z Z' : AS} (e : Ex H H') (i : ∀ a, Z' a → Z a) : Ex (Dn.hid H Z) (Dn.hid H' Z') := fun a o h => by
  obtain ⟨z, h⟩ := hid_some h
  rw [hid_at fun q => z (i a q)]
  exact e a o h
/-- a hidden place is written -/
theorem hid_upd {H : Hp} {Z : AS} {p : Addr} {o : HO} (h : Z p) : hid (upd H p o) Z = hid H Z := by
  funext a
  by_cases z : Z a
  · rw [hid_no z, hid_no z]
  · rw [hid_at z, hid_at z, upd_ne fun e => z (by rw [e]; exact h)]

/-! ### slots -/
inductive SV where
  | no
  /-- data that never change -/
  | sh (d : PD)
  /-- a list, a dict that the slot alone has -/
  | ol (ds : List PD)
  | od (es : List (PD × PD))
  /-- a list that is read alone -/
  | rl (ds : List PD)
abbrev En := List SV
def isOwn : SV → Bool
  | .ol _ => true
  | .od _ => true
  | _ => false

def SlotOk (K : PySem.W.Frag) (Hs H : Hp) (v : Option V) (r : AS) : SV → Prop
  | .no => True
  | .sh d => ∃ x, v = some x ∧ Rp K Hs x d
  | .ol ds => ∃ p xs, v = some (.ref p) ∧ r p ∧ H p = some (.lst xs) ∧ RpA K Hs xs ds
  | .od es => ∃ p kvs, v = some (.ref p) ∧ r p ∧ H p = some (.dK kvs) ∧ RpK K Hs kvs es
  | .rl ds => ∃ p xs, v = some (.ref p) ∧ SqL K Hs p xs ∧ RpA K Hs xs ds

def own (ext : AS) (reg : Nat → AS) : AS := fun a => ext a ∨ ∃ i, reg i a

structure RS (K : PySem.W.Frag) (H0 : Hp) (ext : AS) (reg : Nat → AS) (en : En) (σ : St) (H : Hp) : Prop where
  le : Ex H0 H
  exd : ∀ a, ext a → ∃ o, H0 a = some o
  rg : ∀ i a, reg i a → H0 a = none ∧ ∃ o, H a = some o
  dj : ∀ i j a, reg i a → reg j a → i = j
  ro : ∀ i a, reg i a → ∃ sv, en[i]? = some sv ∧ isOwn sv = true
  len : σ.length = en.length
  sl : ∀ i sv, en[i]? = some sv → ∃ v, σ[i]? = some v ∧ SlotOk K (hid H (own ext reg)) H v (reg i) sv

section
variable {K : PySem.W.Frag} {H0 H H' : Hp} {ext : AS} {reg : Nat → AS} {en : En} {σ : St}
theorem RS.there (r : RS K H0 ext reg en σ H) {a : Addr} (h : own ext reg a) : ∃ o, H a = some o := by
  rcases h with h | ⟨i, h⟩
  · obtain ⟨o, e⟩ := r.exd a h
    exact ⟨o, r.le a o e⟩
  · exact (r.rg i a h).2
theorem RS.fresh (r : RS K H0 ext reg en σ H) {p : Addr} (h : H p = none) : ¬ own ext reg p := fun z => by
  obtain ⟨o, e⟩ := r.there z
  rw [h] at e
  cases e
theorem RS.noext (r : RS K H0 ext reg en σ H) {i : Nat} {a : Addr} (h : reg i a) : ¬ ext a := fun z => by
  obtain ⟨o, e⟩ := r.exd a z
  rw [(r.rg i a h).1] at e
  cases e
theorem SlotOk.mono {Hs Hs' : Hp} {v : Option V} {rg : AS} (e : LeR K Hs Hs') (el : ∀ p xs, SqL K Hs p xs → SqL K Hs' p xs) (k : ∀ p o, rg p → H p = some o → H' p = some o) : ∀ {sv : SV}, SlotOk K Hs H v rg sv → SlotOk K Hs' H' v rg sv
  | .no, _ => trivial
  | .sh d, ⟨x, h1, h2⟩ => ⟨x, h1, h2.mono e⟩
  | .ol ds, ⟨p, xs, h1, h2, h3, h4⟩ => ⟨p, xs, h1, h2, k _ _ h2 h3, h4.mono e⟩
  | .od es, ⟨p, xs, h1, h2, h3, h4⟩ => ⟨p, xs, h1, h2, k _ _ h2 h3, h4.mono e⟩
  | .rl ds, ⟨p, xs, h1, h2, h3⟩ => ⟨p, xs, h1, el _ _ h2, h3.mono e⟩
theorem RS.ex (r : RS K H0 ext reg en σ H) (e : Ex H H') : RS K H0 ext reg en σ H' :=
  ⟨r.le.trans e, r.exd, fun i a h => ⟨(r.rg i a h).1, let ⟨o, q⟩ := (r.rg i a h).2; ⟨o, e a o q⟩⟩, r.dj, r.ro, r.len, fun i sv h => by
    obtain ⟨v, h1, h2⟩ := r.sl i sv h
    exact ⟨v, h1, h2.mono e.hid.le (fun _ _ q => e.hid.sql q) fun p o _ q => e p o q⟩⟩
/-- an elder ground -/
theorem RS.ground {H1 : Hp} (r : RS K H1 ext reg en σ H) (e : Ex H0 H1) (x : ∀ a, ext a → ∃ o, H0 a = some o) : RS K H0 ext reg en σ H :=
  ⟨e.trans r.le, x, fun i a h => ⟨e.back (r.rg i a h).1, (r.rg i a h).2⟩, r.dj, r.ro, r.len, r.sl⟩
/-- the ground of all that no slot owns -/
theorem RS.lift (r : RS K H0 ext reg en σ H) : RS K (hid H fun a => ∃ i, reg i a) ext reg en σ H :=
  ⟨hid_ex, fun a h => by
    obtain ⟨o, e⟩ := r.exd a h
    refine ⟨o, ?_⟩
    rw [hid_at fun ⟨i, q⟩ => r.noext q h]
    exact r.le a o e, fun i a h => ⟨hid_no ⟨i, h⟩, (r.rg i a h).2⟩, r.dj, r.ro, r.len, r.sl⟩
theorem RS.lift_le (r : RS K H0 ext reg en σ H) : Ex H0 (hid H fun a => ∃ i, reg i a) := fun a o h => by
  rw [hid_at fun ⟨i, q⟩ => by
    rw [(r.rg i a q).1] at h
    cases h]
  exact r.le a o h
end
end Dn

namespace Dn
open PySem L2

/-- where one stands: the written part, what is wanted of errors, where the errors' classes stand -/
structure Cn where
  K : PySem.W.Frag
  E : XK
  cl : Str → Addr
abbrev Cn.n (C : Cn) : Cn := { C with E := E0 }

/-! ### loose data: what a slot owns may be its root -/
inductive RpL (K : PySem.W.Frag) (Hs H : Hp) : V → PD → Prop
  | s {v : V} {d : PD} : Rp K Hs v d → RpL K Hs H v d
  | l {p : Addr} {xs : List V} {ds : List PD} : H p = some (.lst xs) → RpA K Hs xs ds → RpL K Hs H (.ref p) (.list ds)
  | d {p : Addr} {kvs : List (Key × V)} {es : List (PD × PD)} : H p = some (.dK kvs) → RpK K Hs kvs es → RpL K Hs H (.ref p) (.dict es)
section
variable {K : PySem.W.Frag} {Hs Hs' H H' : Hp} {v : V} {d : PD}
theorem RpL.mono (e : LeR K Hs Hs') (e' : Ex H H') : RpL K Hs H v d → RpL K Hs' H' v d
  | .s h => .s (h.mono e)
  | .l h r => .l (e' _ _ h) (r.mono e)
  | .d h r => .d (e' _ _ h) (r.mono e)
theorem RpL.lst0 {ds : List PD} (h : RpL K Hs H v (.list ds)) (e : Ex Hs H) : ∃ p xs, v = .ref p ∧ H p = some (.lst xs) ∧ RpA K Hs xs ds := by
  cases h with
  | s h => cases h with | lst h r => exact ⟨_, _, rfl, e _ _ h, r⟩
  | l h r => exact ⟨_, _, rfl, h, r⟩
theorem RpL.dct0 {es : List (PD × PD)} (h : RpL K Hs H v (.dict es)) (e : Ex Hs H) : ∃ p kvs, v = .ref p ∧ Rd H p (.dK kvs) ∧ RpK K Hs kvs es := by
  cases h with
  | s h => cases h with | dct h r => exact ⟨_, _, rfl, e.rd h, r⟩
  | d h r => exact ⟨_, _, rfl, .inl h, r⟩
theorem RpL.tup0 {ds : List PD} (h : RpL K Hs H v (.tuple ds)) (e : Ex Hs H) : ∃ p xs, v = .ref p ∧ SqT K H p xs ∧ RpA K Hs xs ds := by
  cases h with
  | s h => cases h with | tup h r => exact ⟨_, _, rfl, e.sqt h, r⟩
theorem RpL.non (h : RpL K Hs H v .none) : v = .non := by cases h with | s h => cases h; rfl
theorem RpL.bl {b : Bool} (h : RpL K Hs H v (.bool b)) : v = .bl b := by cases h with | s h => cases h; rfl
theorem RpL.int {i : Int} (h : RpL K Hs H v (.int i)) : v = .int i := by cases h with | s h => cases h; rfl
theorem RpL.str {x : Str} (h : RpL K Hs H v (.str x)) : v = .str x := by cases h with | s h => cases h; rfl
theorem Rp.bl' {b : Bool} (h : Rp K H v (.bool b)) : v = .bl b := by cases h; rfl
theorem Rp.int' {i : Int} (h : Rp K H v (.int i)) : v = .int i := by cases h; rfl
theorem Rp.str' {x : Str} (h : Rp K H v (.str x)) : v = .str x := by cases h; rfl
/-- loose data as plain data over a heap in which the roots stand -/
theorem RpL.rp (h : RpL K Hs H v d) (e : Ex Hs H) : Rp K H v d := by
  cases h with
  | s h => exact h.mono e.le
  | l h r => exact .lst h (r.mono e.le)
  | d h r => exact .dct (.inl h) (r.mono e.le)
end
theorem hid_less {H : Hp} {Y Z : AS} (i : ∀ a, Y a → Z a) : Ex (hid H Z) (hid H Y) := (Ex.refl H).hidLess i
section
variable {K : PySem.W.Frag} {H : Hp} {Y Z : AS} {v : V}
theorem RpL.lst {ds : List PD} (h : RpL K (hid H Z) (hid H Y) v (.list ds)) (i : ∀ a, Y a → Z a) : ∃ p xs, v = .ref p ∧ H p = some (.lst xs) ∧ RpA K (hid H Z) xs ds :=
  let ⟨p, xs, h1, h2, h3⟩ := h.lst0 (hid_less i); ⟨p, xs, h1, hid_ex _ _ h2, h3⟩
theorem RpL.dct {es : List (PD × PD)} (h : RpL K (hid H Z) (hid H Y) v (.dict es)) (i : ∀ a, Y a → Z a) : ∃ p kvs, v = .ref p ∧ Rd H p (.dK kvs) ∧ RpK K (hid H Z) kvs es :=
  let ⟨p, xs, h1, h2, h3⟩ := h.dct0 (hid_less i); ⟨p, xs, h1, hid_ex.rd h2, h3⟩
theorem RpL.tup {ds : List PD} (h : RpL K (hid H Z) (hid H Y) v (.tuple ds)) (i : ∀ a, Y a → Z a) : ∃ p xs, v = .ref p ∧ SqT K H p xs ∧ RpA K (hid H Z) xs ds :=
  let ⟨p, xs, h1, h2, h3⟩ := h.tup0 (hid_less i); ⟨p, xs, h1, hid_ex.sqt h2, h3⟩
end
inductive RpLA (K : PySem.W.Frag) (Hs H : Hp) : List V → List PD → Prop
  | nil : RpLA K Hs H [] []
  | cons {v : V} {vs : List V} {d : PD} {ds : List PD} : RpL K Hs H v d → RpLA K Hs H vs ds → RpLA K Hs H (v :: vs) (d :: ds)

/-! ### what is wanted of a result -/
def WrS (C : Cn) (Z : AS) (H : Hp) (Q : VK) : R PD → Prop
  | .ok d => ∀ v H2, Ex H H2 → Rp C.K (hid H2 Z) v d → Q v H2
  | .exc c => ∀ H2, Ex H H2 → C.E (.ref (C.cl c)) none H2
  | .stuck => False
def WrL (C : Cn) (Y Z : AS) (H : Hp) (Q : VK) : R PD → Prop
  | .ok d => ∀ v H2, Ex H H2 → RpL C.K (hid H2 Z) (hid H2 Y) v d → Q v H2
  | .exc c => ∀ H2, Ex H H2 → C.E (.ref (C.cl c)) none H2
  | .stuck => False
def WrT (C : Cn) (H : Hp) (Q : Bool → Hp → Prop) : R Bool → Prop
  | .ok b => ∀ H2, Ex H H2 → Q b H2
  | .exc c => ∀ H2, Ex H H2 → C.E (.ref (C.cl c)) none H2
  | .stuck => False
def WrA (C : Cn) (Z : AS) (H : Hp) (Q : List V → Hp → Prop) : R (List PD) → Prop
  | .ok ds => ∀ vs H2, Ex H H2 → RpA C.K (hid H2 Z) vs ds → Q vs H2
  | .exc c => ∀ H2, Ex H H2 → C.E (.ref (C.cl c)) none H2
  | .stuck => False
def WrB (C : Cn) (Y Z : AS) (H : Hp) (Q : List V → Hp → Prop) : R (List PD) → Prop
  | .ok ds => ∀ vs H2, Ex H H2 → RpLA C.K (hid H2 Z) (hid H2 Y) vs ds → Q vs H2
  | .exc c => ∀ H2, Ex H H2 → C.E (.ref (C.cl c)) none H2
  | .stuck => False
def WrO (C : Cn) (H : Hp) (Q : Option Int → Hp → Prop) : R (Option Int) → Prop
  | .ok o => ∀ H2, Ex H H2 → Q o H2
  | .exc c => ∀ H2, Ex H H2 → C.E (.ref (C.cl c)) none H2
  | .stuck => False

/-- an expression comes to data: safe, loose; a test; arguments: safe, loose -/
def EdS (C : Cn) (te : TE) (f : En → R PD) : Prop := ∀ (H0 : Hp) (ext : AS) (reg : Nat → AS) (en : En) (σ : L2.St) (H : Hp), RS C.K H0 ext reg en σ H → ∀ Q : VK, WrS C (own ext reg) H Q (f en) → te σ H Q
def EdL (C : Cn) (te : TE) (f : En → R PD) : Prop := ∀ (H0 : Hp) (ext : AS) (reg : Nat → AS) (en : En) (σ : L2.St) (H : Hp), RS C.K H0 ext reg en σ H → ∀ Q : VK, WrL C ext (own ext reg) H Q (f en) → te σ H Q
def EdT (C : Cn) (tt : TT) (f : En → R Bool) : Prop := ∀ (H0 : Hp) (ext : AS) (reg : Nat → AS) (en : En) (σ : L2.St) (H : Hp), RS C.K H0 ext reg en σ H → ∀ Q : Bool → Hp → Prop, WrT C H Q (f en) → tt σ H Q
def EdA (C : Cn) (ta : TA) (f : En → R (List PD)) : Prop := ∀ (H0 : Hp) (ext : AS) (reg : Nat → AS) (en : En) (σ : L2.St) (H : Hp), RS C.K H0 ext reg en σ H → ∀ Q : List V → Hp → Prop, WrA C (own ext reg) H Q (f en) → ta σ H Q
def EdB (C : Cn) (ta : TA) (f : En → R (List PD)) : Prop := ∀ (H0 : Hp) (ext : AS) (reg : Nat → AS) (en : En) (σ : L2.St) (H : Hp), RS C.K H0 ext reg en σ H → ∀ Q : List V → Hp → Prop, WrB C ext (own ext reg) H Q (f en) → ta σ H Q
def EdO (C : Cn) (to : TO) (f : En → R (Option Int)) : Prop := ∀ (H0 : Hp) (ext : AS) (reg : Nat → AS) (en : En) (σ : L2.St) (H : Hp), RS C.K H0 ext reg en σ H → ∀ Q : Option Int → Hp → Prop, WrO C H Q (f en) → to σ H Q

section
variable {C : Cn} {ta tb tc te : TE} {fa fb fc : En → R PD} {t u : TT} {ft fu : En → R Bool} {Z : AS} {H H1 : Hp} {Q : VK}
theorem WrS.ex {r : R PD} (w : WrS C Z H Q r) (e : Ex H H1) : WrS C Z H1 Q r := by
  cases r with
  | ok d => exact fun v H2 e2 h => w v H2 (e.trans e2) h
  | exc c => exact fun H2 e2 => w H2 (e.trans e2)
  | stuck => exact w
theorem WrL.ex {Y : AS} {r : R PD} (w : WrL C Y Z H Q r) (e : Ex H H1) : WrL C Y Z H1 Q r := by
  cases r with
  | ok d => exact fun v H2 e2 h => w v H2 (e.trans e2) h
  | exc c => exact fun H2 e2 => w H2 (e.trans e2)
  | stuck => exact w
theorem WrT.ex {Q : Bool → Hp → Prop} {r : R Bool} (w : WrT C H Q r) (e : Ex H H1) : WrT C H1 Q r := by
  cases r with
  | ok d => exact fun H2 e2 => w H2 (e.trans e2)
  | exc c => exact fun H2 e2 => w H2 (e.trans e2)
  | stuck => exact w
theorem WrA.ex {Q : List V → Hp → Prop} {r : R (List PD)} (w : WrA C Z H Q r) (e : Ex H H1) : WrA C Z H1 Q r := by
  cases r with
  | ok d => exact fun v H2 e2 h => w v H2 (e.trans e2) h
  | exc c => exact fun H2 e2 => w H2 (e.trans e2)
  | stuck => exact w
theorem WrB.ex {Y : AS} {Q : List V → Hp → Prop} {r : R (List PD)} (w : WrB C Y Z H Q r) (e : Ex H H1) : WrB C Y Z H1 Q r := by
  cases r with
  | ok d => exact fun v H2 e2 h => w v H2 (e.trans e2) h
  | exc c => exact fun H2 e2 => w H2 (e.trans e2)
  | stuck => exact w
theorem WrO.ex {Q : Option Int → Hp → Prop} {r : R (Option Int)} (w : WrO C H Q r) (e : Ex H H1) : WrO C H1 Q r := by
  cases r with
  | ok d => exact fun H2 e2 => w H2 (e.trans e2)
  | exc c => exact fun H2 e2 => w H2 (e.trans e2)
  | stuck => exact w
theorem EdS.l (h : EdS C te fa) : EdL C te fa := fun H0 ext reg en σ H r Q w => h H0 ext reg en σ H r Q (by
  generalize fa en = x at w ⊢
  cases x with
  | ok d => exact fun v H2 e q => w v H2 e (.s q)
  | exc c => exact w
  | stuck => exact w)
/-- one after another: what comes first is carried on -/
theorem EdL.seq {β : Type} {H0 : Hp} {ext : AS} {reg : Nat → AS} {en : En} {σ : L2.St} (h : EdL C ta fa) (r : RS C.K H0 ext reg en σ H) {W : R β → Prop} {g : PD → R β} {Q : VK} (w : W ((fa en).bind g)) (hx : ∀ c, W (.exc c) → ∀ H2, Ex H H2 → C.E (.ref (C.cl c)) none H2) (hs : ¬ W .stuck)
    (k : ∀ d v H2, Ex H H2 → RS C.K H0 ext reg en σ H2 → RpL C.K (hid H2 (own ext reg)) (hid H2 ext) v d → W (g d) → Q v H2) : ta σ H Q := h H0 ext reg en σ H r Q (by
  generalize fa en = x at w ⊢
  cases x with
  | ok d => exact fun v H2 e q => k d v H2 e (r.ex e) q w
  | exc c => exact hx c w
  | stuck => exact hs w)
theorem EdS.seq {β : Type} {H0 : Hp} {ext : AS} {reg : Nat → AS} {en : En} {σ : L2.St} (h : EdS C ta fa) (r : RS C.K H0 ext reg en σ H) {W : R β → Prop} {g : PD → R β} {Q : VK} (w : W ((fa en).bind g)) (hx : ∀ c, W (.exc c) → ∀ H2, Ex H H2 → C.E (.ref (C.cl c)) none H2) (hs : ¬ W .stuck)
    (k : ∀ d v H2, Ex H H2 → RS C.K H0 ext reg en σ H2 → Rp C.K (hid H2 (own ext reg)) v d → W (g d) → Q v H2) : ta σ H Q := h H0 ext reg en σ H r Q (by
  generalize fa en = x at w ⊢
  cases x with
  | ok d => exact fun v H2 e q => k d v H2 e (r.ex e) q w
  | exc c => exact hx c w
  | stuck => exact hs w)
theorem EdT.seq {β : Type} {H0 : Hp} {ext : AS} {reg : Nat → AS} {en : En} {σ : L2.St} (h : EdT C t ft) (r : RS C.K H0 ext reg en σ H) {W : R β → Prop} {g : Bool → R β} {Q : Bool → Hp → Prop} (w : W ((ft en).bind g)) (hx : ∀ c, W (.exc c) → ∀ H2, Ex H H2 → C.E (.ref (C.cl c)) none H2) (hs : ¬ W .stuck)
    (k : ∀ d H2, Ex H H2 → RS C.K H0 ext reg en σ H2 → W (g d) → Q d H2) : t σ H Q := h H0 ext reg en σ H r Q (by
  generalize ft en = x at w ⊢
  cases x with
  | ok d => exact fun H2 e => k d H2 e (r.ex e) w
  | exc c => exact hx c w
  | stuck => exact hs w)
theorem EdA.seq {β : Type} {H0 : Hp} {ext : AS} {reg : Nat → AS} {en : En} {σ : L2.St} {ta : TA} {fa : En → R (List PD)} (h : EdA C ta fa) (r : RS C.K H0 ext reg en σ H) {W : R β → Prop} {g : List PD → R β} {Q : List V → Hp → Prop} (w : W ((fa en).bind g)) (hx : ∀ c, W (.exc c) → ∀ H2, Ex H H2 → C.E (.ref (C.cl c)) none H2) (hs : ¬ W .stuck)
    (k : ∀ d v H2, Ex H H2 → RS C.K H0 ext reg en σ H2 → RpA C.K (hid H2 (own ext reg)) v d → W (g d) → Q v H2) : ta σ H Q := h H0 ext reg en σ H r Q (by
  generalize fa en = x at w ⊢
  cases x with
  | ok d => exact fun v H2 e q => k d v H2 e (r.ex e) q w
  | exc c => exact hx c w
  | stuck => exact hs w)
theorem EdB.seq {β : Type} {H0 : Hp} {ext : AS} {reg : Nat → AS} {en : En} {σ : L2.St} {ta : TA} {fa : En → R (List PD)} (h : EdB C ta fa) (r : RS C.K H0 ext reg en σ H) {W : R β → Prop} {g : List PD → R β} {Q : List V → Hp → Prop} (w : W ((fa en).bind g)) (hx : ∀ c, W (.exc c) → ∀ H2, Ex H H2 → C.E (.ref (C.cl c)) none H2) (hs : ¬ W .stuck)
    (k : ∀ d v H2, Ex H H2 → RS C.K H0 ext reg en σ H2 → RpLA C.K (hid H2 (own ext reg)) (hid H2 ext) v d → W (g d) → Q v H2) : ta σ H Q := h H0 ext reg en σ H r Q (by
  generalize fa en = x at w ⊢
  cases x with
  | ok d => exact fun v H2 e q => k d v H2 e (r.ex e) q w
  | exc c => exact hx c w
  | stuck => exact hs w)
theorem EdO.seq {β : Type} {H0 : Hp} {ext : AS} {reg : Nat → AS} {en : En} {σ : L2.St} {ta : TO} {fa : En → R (Option Int)} (h : EdO C ta fa) (r : RS C.K H0 ext reg en σ H) {W : R β → Prop} {g : Option Int → R β} {Q : Option Int → Hp → Prop} (w : W ((fa en).bind g)) (hx : ∀ c, W (.exc c) → ∀ H2, Ex H H2 → C.E (.ref (C.cl c)) none H2) (hs : ¬ W .stuck)
    (k : ∀ d H2, Ex H H2 → RS C.K H0 ext reg en σ H2 → W (g d) → Q d H2) : ta σ H Q := h H0 ext reg en σ H r Q (by
  generalize fa en = x at w ⊢
  cases x with
  | ok d => exact fun H2 e => k d H2 e (r.ex e) w
  | exc c => exact hx c w
  | stuck => exact hs w)

/-! ### names, constants -/
def dVar (i : Nat) : En → R PD := fun en => match en[i]? with
  | some (.sh d) => .ok d
  | _ => .stuck
def dVarL (i : Nat) : En → R PD := fun en => match en[i]? with
  | some (.sh d) => .ok d
  | some (.ol ds) => .ok (.list ds)
  | some (.od es) => .ok (.dict es)
  | _ => .stuck
theorem ed_var (i : Nat) : EdS C (tVar i) (dVar i) := fun H0 ext reg en σ H r Q w => by
  unfold dVar at w
  cases h : en[i]? with
  | none => rw [h] at w; exact w.elim
  | some sv =>
    rw [h] at w
    obtain ⟨v, h1, h2⟩ := r.sl i sv h
    cases sv with
    | sh d =>
      obtain ⟨x, rfl, h3⟩ := h2
      exact ⟨x, h1, w x H (Ex.refl H) h3⟩
    | _ => exact w.elim
theorem el_var (i : Nat) : EdL C (tVar i) (dVarL i) := fun H0 ext reg en σ H r Q w => by
  unfold dVarL at w
  cases h : en[i]? with
  | none => rw [h] at w; exact w.elim
  | some sv =>
    rw [h] at w
    obtain ⟨v, h1, h2⟩ := r.sl i sv h
    cases sv with
    | sh d =>
      obtain ⟨x, rfl, h3⟩ := h2
      exact ⟨x, h1, w x H (Ex.refl H) (.s h3)⟩
    | ol ds =>
      obtain ⟨p, xs, rfl, h0, h3, h4⟩ := h2
      exact ⟨_, h1, w _ H (Ex.refl H) (.l (by rw [hid_at (r.noext h0)]; exact h3) h4)⟩
    | od ds =>
      obtain ⟨p, xs, rfl, h0, h3, h4⟩ := h2
      exact ⟨_, h1, w _ H (Ex.refl H) (.d (by rw [hid_at (r.noext h0)]; exact h3) h4)⟩
    | _ => exact w.elim
def dC (d : PD) : En → R PD := fun _ => .ok d
theorem ed_k {v : V} {d : PD} (h : ∀ H, Rp C.K H v d) : EdS C (tC v) (dC d) := fun H0 ext reg en σ H r Q w => w v H (Ex.refl H) (h _)
theorem ed_int (i : Int) : EdS C (tC (.int i)) (dC (.int i)) := ed_k fun _ => .int i
theorem ed_str (x : Str) : EdS C (tC (.str x)) (dC (.str x)) := ed_k fun _ => .str x
theorem ed_bl (b : Bool) : EdS C (tC (.bl b)) (dC (.bool b)) := ed_k fun _ => .bl b
theorem ed_non : EdS C (tC .non) (dC .none) := ed_k fun _ => .non

/-! ### operators by values -/
/-- r comes to g -/
def Op2 (C : Cn) (r : R2) (g : PD → PD → R PD) : Prop := ∀ (Y Z : AS) (H : Hp) (v w : V) (x y : PD) (Q : VK), (∀ a, Y a → Z a) → (∀ a, Z a → ∃ o, H a = some o) → RpL C.K (hid H Z) (hid H Y) v x → RpL C.K (hid H Z) (hid H Y) w y → WrS C Z H Q (g x y) → r v w H Q
def Op1 (C : Cn) (r : V → Hp → VK → Prop) (g : PD → R PD) : Prop := ∀ (Y Z : AS) (H : Hp) (v : V) (x : PD) (Q : VK), (∀ a, Y a → Z a) → (∀ a, Z a → ∃ o, H a = some o) → RpL C.K (hid H Z) (hid H Y) v x → WrS C Z H Q (g x) → r v H Q
def OpN (C : Cn) (r : List V → Hp → VK → Prop) (g : List PD → R PD) : Prop := ∀ (Y Z : AS) (H : Hp) (vs : List V) (xs : List PD) (Q : VK), (∀ a, Y a → Z a) → (∀ a, Z a → ∃ o, H a = some o) → RpLA C.K (hid H Z) (hid H Y) vs xs → WrS C Z H Q (g xs) → r vs H Q
/-- methods: the object, the arguments -/
def OpM (C : Cn) (r : V → List V → Hp → VK → Prop) (g : PD → List PD → R PD) : Prop := ∀ (Y Z : AS) (H : Hp) (v : V) (x : PD) (vs : List V) (xs : List PD) (Q : VK), (∀ a, Y a → Z a) → (∀ a, Z a → ∃ o, H a = some o) → RpL C.K (hid H Z) (hid H Y) v x → RpLA C.K (hid H Z) (hid H Y) vs xs → WrS C Z H Q (g x xs) → r v vs H Q
def d2 (g : PD → PD → R PD) (fa fb : En → R PD) : En → R PD := fun en => (fa en).bind fun x => (fb en).bind fun y => g x y
def d1 (g : PD → R PD) (fa : En → R PD) : En → R PD := fun en => (fa en).bind g
def dN (g : List PD → R PD) (fa : En → R (List PD)) : En → R PD := fun en => (fa en).bind g
theorem ed_op {r : R2} {g : PD → PD → R PD} (hr : Op2 C r g) (ha : EdL C ta fa) (hb : EdL C tb fb) : EdS C (tOp r ta tb) (d2 g fa fb) := fun H0 ext reg en σ H rs Q w =>
  ha.seq rs (W := WrS C (own ext reg) H Q) w (fun _ q => q) (fun q => q) fun x v H2 e2 r2 h2 w2 =>
    hb.seq r2 (W := WrS C (own ext reg) H2 Q) (w2.ex e2) (fun _ q => q) (fun q => q) fun y u H3 e3 r3 h3 w3 =>
      hr ext (own ext reg) H3 v u x y Q (fun a z => .inl z) (fun a z => r3.there z) (h2.mono e3.hid.le e3.hid) h3 (w3.ex e3)
theorem ed_un {r : V → Hp → VK → Prop} {g : PD → R PD} (hr : Op1 C r g) (ha : EdL C ta fa) : EdS C (tUn r ta) (d1 g fa) := fun H0 ext reg en σ H rs Q w =>
  ha.seq rs (W := WrS C (own ext reg) H Q) w (fun _ q => q) (fun q => q) fun x v H2 e2 r2 h2 w2 => hr ext (own ext reg) H2 v x Q (fun a z => .inl z) (fun a z => r2.there z) h2 (w2.ex e2)
theorem ed_cb {r : List V → Hp → VK → Prop} {g : List PD → R PD} {ta : TA} {fa : En → R (List PD)} (hr : OpN C r g) (ha : EdB C ta fa) : EdS C (tCB r ta) (dN g fa) := fun H0 ext reg en σ H rs Q w =>
  ha.seq rs (W := WrS C (own ext reg) H Q) w (fun _ q => q) (fun q => q) fun x v H2 e2 r2 h2 w2 => hr ext (own ext reg) H2 v x Q (fun a z => .inl z) (fun a z => r2.there z) h2 (w2.ex e2)

/-! ### arguments -/
def dNil : En → R (List PD) := fun _ => .ok []
def dCons (fa : En → R PD) (fr : En → R (List PD)) : En → R (List PD) := fun en => (fa en).bind fun x => (fr en).bind fun r => .ok (x :: r)
theorem ea_nil : EdA C tNil dNil := fun H0 ext reg en σ H rs Q w => w [] H (Ex.refl H) .nil
theorem eb_nil : EdB C tNil dNil := fun H0 ext reg en σ H rs Q w => w [] H (Ex.refl H) .nil
theorem RpLA.mono {K : PySem.W.Frag} {Hs Hs' H H' : Hp} (e : LeR K Hs Hs') (e' : Ex H H') : ∀ {vs : List V} {ds : List PD}, RpLA K Hs H vs ds → RpLA K Hs' H' vs ds
  | _, _, .nil => .nil
  | _, _, .cons h r => .cons (h.mono e e') (RpLA.mono e e' r)
theorem ea_cons {tr : TA} {fr : En → R (List PD)} (ha : EdS C ta fa) (hb : EdA C tr fr) : EdA C (tCons ta tr) (dCons fa fr) := fun H0 ext reg en σ H rs Q w =>
  ha.seq rs (W := WrA C (own ext reg) H Q) w (fun _ q => q) (fun q => q) fun x v H2 e2 r2 h2 w2 =>
    hb.seq r2 (W := WrA C (own ext reg) H2 Q) (w2.ex e2) (fun _ q => q) (fun q => q) fun y u H3 e3 r3 h3 w3 =>
      (w3.ex e3) (v :: u) H3 (Ex.refl H3) (.cons (h2.mono e3.hid.le) h3)
theorem eb_cons {tr : TA} {fr : En → R (List PD)} (ha : EdL C ta fa) (hb : EdB C tr fr) : EdB C (tCons ta tr) (dCons fa fr) := fun H0 ext reg en σ H rs Q w =>
  ha.seq rs (W := WrB C ext (own ext reg) H Q) w (fun _ q => q) (fun q => q) fun x v H2 e2 r2 h2 w2 =>
    hb.seq r2 (W := WrB C ext (own ext reg) H2 Q) (w2.ex e2) (fun _ q => q) (fun q => q) fun y u H3 e3 r3 h3 w3 =>
      (w3.ex e3) (v :: u) H3 (Ex.refl H3) (.cons (h2.mono e3.hid.le e3.hid) h3)

/-! ### displays -/
def szN : Nat := 1000000
theorem sz_of {n : Nat} (h : n ≤ szN) : n ≤ sizeLine := Nat.le_trans h (by decide)
theorem sz_lt {n : Nat} (h : n ≤ szN) : n < sizeLine := Nat.lt_of_le_of_lt h (by decide)
theorem hid_new {H : Hp} {Z : AS} {p : Addr} {o : HO} (hz : ∀ a, Z a → ∃ o, H a = some o) (h : H p = none) : hid (upd H p o) Z p = some o := by
  rw [hid_at fun z => by
    obtain ⟨u, e⟩ := hz p z
    rw [h] at e
    cases e]
  exact upd_same
def mkL (ds : List PD) : R PD := if ds.length ≤ szN then .ok (.list ds) else .stuck
def mkT (ds : List PD) : R PD := if ds.length ≤ szN then .ok (.tuple ds) else .stuck
theorem Rp.newL {K : PySem.W.Frag} {Z : AS} {p : Addr} {xs : List V} {ds : List PD} (hz : ∀ a, Z a → ∃ o, H a = some o) (hp : H p = none) (h : RpA K (hid H Z) xs ds) : Rp K (hid (upd H p (.lst xs)) Z) (.ref p) (.list ds) :=
  .lst (hid_new hz hp) (h.mono (Ex.new hp).hid.le)
theorem Rp.newT {K : PySem.W.Frag} {Z : AS} {p : Addr} {xs : List V} {ds : List PD} (hz : ∀ a, Z a → ∃ o, H a = some o) (hp : H p = none) (h : RpA K (hid H Z) xs ds) : Rp K (hid (upd H p (.tup xs)) Z) (.ref p) (.tuple ds) :=
  .tup (.inl (.inl (hid_new hz hp))) (h.mono (Ex.new hp).hid.le)
theorem WrS.newL {xs : List V} {ds : List PD} (w : WrS C Z H Q (mkL ds)) (hz : ∀ a, Z a → ∃ o, H a = some o) (h : RpA C.K (hid H Z) xs ds) : xs.length ≤ sizeLine ∧ ∀ p, H p = none → Q (.ref p) (upd H p (.lst xs)) := by
  unfold mkL at w
  split at w
  · rename_i hl
    refine ⟨sz_of (by rw [h.length]; exact hl), fun p hp => w _ _ (Ex.new hp) (Rp.newL hz hp h)⟩
  · exact w.elim
theorem WrS.newT {xs : List V} {ds : List PD} (w : WrS C Z H Q (mkT ds)) (hz : ∀ a, Z a → ∃ o, H a = some o) (h : RpA C.K (hid H Z) xs ds) : xs.length ≤ sizeLine ∧ ∀ p, H p = none → Q (.ref p) (upd H p (.tup xs)) := by
  unfold mkT at w
  split at w
  · rename_i hl
    refine ⟨sz_of (by rw [h.length]; exact hl), fun p hp => w _ _ (Ex.new hp) (Rp.newT hz hp h)⟩
  · exact w.elim
theorem ed_lst {ta : TA} {fa : En → R (List PD)} (h : EdA C ta fa) : EdS C (tLst ta) (dN mkL fa) := fun H0 ext reg en σ H rs Q w =>
  h.seq rs (W := WrS C (own ext reg) H Q) w (fun _ q => q) (fun q => q) fun x v H2 e2 r2 h2 w2 => (w2.ex e2).newL (fun a z => r2.there z) h2
theorem ed_tup {ta : TA} {fa : En → R (List PD)} (h : EdA C ta fa) : EdS C (tTup ta) (dN mkT fa) := fun H0 ext reg en σ H rs Q w =>
  h.seq rs (W := WrS C (own ext reg) H Q) w (fun _ q => q) (fun q => q) fun x v H2 e2 r2 h2 w2 => (w2.ex e2).newT (fun a z => r2.there z) h2

/-! ### tests -/
def asB : PD → R Bool
  | .bool b => .ok b
  | _ => .stuck
def dTest (fa : En → R PD) : En → R Bool := fun en => (fa en).bind asB
theorem et_test (h : EdL C te fa) : EdT C (tTest te) (dTest fa) := fun H0 ext reg en σ H rs Q w =>
  h.seq rs (W := WrT C H Q) w (fun _ q => q) (fun q => q) fun x v H2 e2 r2 h2 w2 => by
    cases x with
    | bool b => exact ⟨b, h2.bl, w2 H2 e2⟩
    | _ => exact w2.elim
theorem et_B (h : EdL C te fa) : EdT C (tB te) (dTest fa) := et_test h
def dAnd (ft fu : En → R Bool) : En → R Bool := fun en => (ft en).bind fun b => match b with
  | true => fu en
  | false => .ok false
def dOr (ft fu : En → R Bool) : En → R Bool := fun en => (ft en).bind fun b => match b with
  | true => .ok true
  | false => fu en
def dNot (ft : En → R Bool) : En → R Bool := fun en => (ft en).bind fun b => .ok (!b)
theorem et_and (h : EdT C t ft) (h' : EdT C u fu) : EdT C (tAnd t u) (dAnd ft fu) := fun H0 ext reg en σ H rs Q w =>
  h.seq rs (W := WrT C H Q) w (fun _ q => q) (fun q => q) fun b H2 e2 r2 w2 => by
    cases b with
    | true =>
      show u σ H2 Q
      exact h' H0 ext reg en σ H2 r2 Q (WrT.ex w2 e2)
    | false =>
      show Q false H2
      exact w2 H2 e2
theorem et_or (h : EdT C t ft) (h' : EdT C u fu) : EdT C (tOr t u) (dOr ft fu) := fun H0 ext reg en σ H rs Q w =>
  h.seq rs (W := WrT C H Q) w (fun _ q => q) (fun q => q) fun b H2 e2 r2 w2 => by
    cases b with
    | true =>
      show Q true H2
      exact w2 H2 e2
    | false =>
      show u σ H2 Q
      exact h' H0 ext reg en σ H2 r2 Q (WrT.ex w2 e2)
theorem et_not (h : EdT C t ft) : EdT C (tNot t) (dNot ft) := fun H0 ext reg en σ H rs Q w =>
  h.seq rs (W := WrT C H Q) w (fun _ q => q) (fun q => q) fun b H2 e2 r2 w2 => w2 H2 e2
/-- and, or, not as values (truths) -/
def dAndV (fa fb : En → R PD) : En → R PD := fun en => (fa en).bind fun x => match x with
  | .bool true => fb en
  | .bool false => .ok (.bool false)
  | _ => .stuck
def dOrV (fa fb : En → R PD) : En → R PD := fun en => (fa en).bind fun x => match x with
  | .bool true => .ok (.bool true)
  | .bool false => fb en
  | _ => .stuck
def notD : PD → R PD
  | .bool b => .ok (.bool (!b))
  | _ => .stuck
theorem ed_andV (h : EdL C ta fa) (h' : EdS C tb fb) : EdS C (tAndV ta tb) (dAndV fa fb) := fun H0 ext reg en σ H rs Q w =>
  h.seq rs (W := WrS C (own ext reg) H Q) w (fun _ q => q) (fun q => q) fun x v H2 e2 r2 h2 w2 => by
    cases x with
    | bool b =>
      refine ⟨b, h2.bl, ?_⟩
      cases b with
      | true =>
        show tb σ H2 Q
        exact h' H0 ext reg en σ H2 r2 Q (WrS.ex w2 e2)
      | false =>
        show Q (.bl false) H2
        exact w2 _ H2 e2 (.bl false)
    | _ => exact w2.elim
theorem ed_orV (h : EdL C ta fa) (h' : EdS C tb fb) : EdS C (tOrV ta tb) (dOrV fa fb) := fun H0 ext reg en σ H rs Q w =>
  h.seq rs (W := WrS C (own ext reg) H Q) w (fun _ q => q) (fun q => q) fun x v H2 e2 r2 h2 w2 => by
    cases x with
    | bool b =>
      refine ⟨b, h2.bl, ?_⟩
      cases b with
      | true =>
        show Q (.bl true) H2
        exact w2 _ H2 e2 (.bl true)
      | false =>
        show tb σ H2 Q
        exact h' H0 ext reg en σ H2 r2 Q (WrS.ex w2 e2)
    | _ => exact w2.elim
theorem ed_notV (h : EdL C ta fa) : EdS C (tNotV ta) (d1 notD fa) := fun H0 ext reg en σ H rs Q w =>
  h.seq rs (W := WrS C (own ext reg) H Q) w (fun _ q => q) (fun q => q) fun x v H2 e2 r2 h2 w2 => by
    cases x with
    | bool b => exact ⟨b, h2.bl, w2 _ H2 e2 (.bl _)⟩
    | _ => exact w2.elim
def dIf (ft : En → R Bool) (fa fb : En → R PD) : En → R PD := fun en => (ft en).bind fun b => match b with
  | true => fa en
  | false => fb en
theorem ed_if (h : EdT C t ft) (h1 : EdS C ta fa) (h2 : EdS C tb fb) : EdS C (tIf t ta tb) (dIf ft fa fb) := fun H0 ext reg en σ H rs Q w =>
  h.seq rs (W := WrS C (own ext reg) H Q) w (fun _ q => q) (fun q => q) fun b H2 e2 r2 w2 => by
    cases b with
    | true =>
      show ta σ H2 Q
      exact h1 H0 ext reg en σ H2 r2 Q (WrS.ex w2 e2)
    | false =>
      show tb σ H2 Q
      exact h2 H0 ext reg en σ H2 r2 Q (WrS.ex w2 e2)
theorem el_if (h : EdT C t ft) (h1 : EdL C ta fa) (h2 : EdL C tb fb) : EdL C (tIf t ta tb) (dIf ft fa fb) := fun H0 ext reg en σ H rs Q w =>
  h.seq rs (W := WrL C ext (own ext reg) H Q) w (fun _ q => q) (fun q => q) fun b H2 e2 r2 w2 => by
    cases b with
    | true =>
      show ta σ H2 Q
      exact h1 H0 ext reg en σ H2 r2 Q (WrL.ex w2 e2)
    | false =>
      show tb σ H2 Q
      exact h2 H0 ext reg en σ H2 r2 Q (WrL.ex w2 e2)
/-- a < b < c -/
def dChain (g g' : PD → PD → R PD) (fa fb fc : En → R PD) : En → R PD := fun en => (fa en).bind fun x => (fb en).bind fun y => (g x y).bind fun z => match z with
  | .bool true => (fc en).bind fun w => g' y w
  | .bool false => .ok (.bool false)
  | _ => .stuck
theorem ed_chain {r r' : R2} {g g' : PD → PD → R PD} (hr : Op2 C r g) (hr' : Op2 C r' g') (ha : EdL C ta fa) (hb : EdL C tb fb) (hc : EdL C tc fc) : EdS C (tChain r r' ta tb tc) (dChain g g' fa fb fc) := fun H0 ext reg en σ H rs Q w =>
  ha.seq rs (W := WrS C (own ext reg) H Q) w (fun _ q => q) (fun q => q) fun x v H2 e2 r2 h2 w2 =>
    hb.seq r2 (W := WrS C (own ext reg) H2 Q) (WrS.ex w2 e2) (fun _ q => q) (fun q => q) fun y u H3 e3 r3 h3 w3 => by
      refine hr ext (own ext reg) H3 v u x y _ (fun a z => .inl z) (fun a z => r3.there z) (h2.mono e3.hid.le e3.hid) h3 ?_
      have w4 := WrS.ex w3 e3
      revert w4
      generalize g x y = z
      intro w4
      cases z with
      | ok z =>
        intro v4 H4 e4 h4
        cases z with
        | bool b =>
          cases h4
          refine ⟨b, rfl, ?_⟩
          cases b with
          | true =>
            exact hc.seq (r3.ex e4) (W := WrS C (own ext reg) H4 Q) (WrS.ex w4 e4) (fun _ q => q) (fun q => q) fun y5 u5 H5 e5 r5 h5 w5 => hr' ext (own ext reg) H5 u u5 y y5 Q (fun a z => .inl z) (fun a z => r5.there z) (h3.mono (e4.trans e5).hid.le (e4.trans e5).hid) h5 (WrS.ex w5 e5)
          | false => exact w4 _ H4 e4 (.bl false)
        | _ => exact w4.elim
      | exc c => exact w4
      | stuck => exact w4
end
end Dn

namespace Dn
open PySem L2

section
variable {X : Cx} {f : Value → Value → Sem Value} {r r' : R2}
def rOr (r r' : R2) : R2 := fun x y H Q => r x y H Q ∨ r' x y H Q
theorem opOr (h : OpR X f r) (h' : OpR X f r') : OpR X f (rOr r r') := fun pins s σ H x y v u Q I rx ry q => by
  rcases q with q | q
  · exact h pins s σ H x y v u Q I rx ry q
  · exact h' pins s σ H x y v u Q I rx ry q
def cOr (r r' : List V → Hp → VK → Prop) : List V → Hp → VK → Prop := fun xs H Q => r xs H Q ∨ r' xs H Q
theorem callOr {g : Value} {r r' : List V → Hp → VK → Prop} (h : CallR X g r) (h' : CallR X g r') : CallR X g (cOr r r') := fun pins s σ H xs us Q I rx q => by
  rcases q with q | q
  · exact h pins s σ H xs us Q I rx q
  · exact h' pins s σ H xs us Q I rx q
end

/-! ### arithmetic -/
def addD : PD → PD → R PD
  | .int i, .int j => .ok (.int (i + j))
  | .str a, .str b => if a.length + b.length ≤ szN then .ok (.str (a ++ b)) else .stuck
  | .list a, .list b => if a.length + b.length ≤ szN then .ok (.list (a ++ b)) else .stuck
  | _, _ => .stuck
def rAddStr : R2 := fun x y H Q => ∃ i j, x = .str i ∧ y = .str j ∧ i.length + j.length ≤ sizeLine ∧ Q (.str (i ++ j)) H
def rAddD : R2 := rOr (rI0 fun i j => .int (i + j)) (rOr rAddStr rCat)
theorem op_addD {X : Cx} : OpR X (binaryOp .Add) rAddD := opOr op_add (opOr op_add_str op_cat)
section
variable {C : Cn}
theorem o_add : Op2 C rAddD addD := fun Y Z H v w x y Q hyz hz hx hy q => by
  cases x with
  | int i =>
    cases y with
    | int j => exact .inl ⟨i, j, hx.int, hy.int, q _ H (Ex.refl H) (.int _)⟩
    | _ => exact q.elim
  | str a =>
    cases y with
    | str b =>
      unfold addD at q
      dsimp only at q
      split at q
      · rename_i hl
        exact .inr (.inl ⟨a, b, hx.str, hy.str, sz_of hl, q _ H (Ex.refl H) (.str _)⟩)
      · exact q.elim
    | _ => exact q.elim
  | list a =>
    cases y with
    | list b =>
      unfold addD at q
      dsimp only at q
      split at q
      · rename_i hl
        obtain ⟨p, xs, rfl, h1, r1⟩ := hx.lst hyz
        obtain ⟨p', ys, rfl, h2, r2⟩ := hy.lst hyz
        exact .inr (.inr ⟨p, p', xs, ys, rfl, rfl, h1, h2, sz_of (by rw [r1.length, r2.length]; exact hl), fun n hn => q _ _ (Ex.new hn) (Rp.newL hz hn (r1.app r2))⟩)
      · exact q.elim
    | _ => exact q.elim
  | _ => exact q.elim
/-- two ints -/
def i2 (C' : Int → Int → Bool) (g : Int → Int → PD) : PD → PD → R PD
  | .int i, .int j => if C' i j = true then .ok (g i j) else .stuck
  | _, _ => .stuck
def i20 (g : Int → Int → PD) : PD → PD → R PD
  | .int i, .int j => .ok (g i j)
  | _, _ => .stuck
theorem o_i20 {gv : Int → Int → V} {g : Int → Int → PD} (h : ∀ i j H, Rp C.K H (gv i j) (g i j)) : Op2 C (rI0 gv) (i20 g) := fun Y Z H v w x y Q hyz hz hx hy q => by
  cases x with
  | int i =>
    cases y with
    | int j => exact ⟨i, j, hx.int, hy.int, q _ H (Ex.refl H) (h i j _)⟩
    | _ => exact q.elim
  | _ => exact q.elim
theorem o_i2 {C' : Int → Int → Prop} {c : Int → Int → Bool} {gv : Int → Int → V} {g : Int → Int → PD} (hc : ∀ i j, c i j = true → C' i j) (h : ∀ i j H, Rp C.K H (gv i j) (g i j)) : Op2 C (rI C' gv) (i2 c g) := fun Y Z H v w x y Q hyz hz hx hy q => by
  cases x with
  | int i =>
    cases y with
    | int j =>
      unfold i2 at q
      dsimp only at q
      split at q
      · rename_i hl
        exact ⟨i, j, hx.int, hy.int, hc i j hl, q _ H (Ex.refl H) (h i j _)⟩
      · exact q.elim
    | _ => exact q.elim
  | _ => exact q.elim
abbrev subD : PD → PD → R PD := i20 fun i j => .int (i - j)
theorem o_sub : Op2 C (rI0 fun i j => .int (i - j)) subD := o_i20 fun _ _ _ => .int _
abbrev ltD : PD → PD → R PD := i20 fun i j => .bool (decide (i < j))
abbrev leD : PD → PD → R PD := i20 fun i j => .bool (decide (i ≤ j))
abbrev gtD : PD → PD → R PD := i20 fun i j => .bool (decide (j < i))
abbrev geD : PD → PD → R PD := i20 fun i j => .bool (decide (j ≤ i))
theorem o_lt : Op2 C (rI0 fun i j => .bl (decide (i < j))) ltD := o_i20 fun _ _ _ => .bl _
theorem o_le : Op2 C (rI0 fun i j => .bl (decide (i ≤ j))) leD := o_i20 fun _ _ _ => .bl _
theorem o_gt : Op2 C (rI0 fun i j => .bl (decide (j < i))) gtD := o_i20 fun _ _ _ => .bl _
theorem o_ge : Op2 C (rI0 fun i j => .bl (decide (j ≤ i))) geD := o_i20 fun _ _ _ => .bl _
abbrev modD : PD → PD → R PD := i2 (fun _ j => decide (0 < j)) fun i j => .int (i % j)
theorem o_mod : Op2 C (rI (fun _ j => 0 < j) fun i j => .int (i % j)) modD := o_i2 (fun _ _ h => of_decide_eq_true h) fun _ _ _ => .int _
abbrev fdivD : PD → PD → R PD := i2 (fun _ j => decide (0 < j ∧ j.natAbs.log2 < 9000)) fun i j => .int (i / j)
theorem o_fdiv : Op2 C (rI CDivW fun i j => .int (i / j)) fdivD := o_i2 (fun i j h => show CDivW i j from of_decide_eq_true (p := (0 < j ∧ j.natAbs.log2 < 9000)) h) fun _ _ _ => .int _
abbrev powD : PD → PD → R PD := i2 (fun i j => decide (0 ≤ j ∧ j ≤ 1000000 ∧ i.natAbs < 2 ^ 64)) fun i j => .int (i ^ j.toNat)
theorem o_pow : Op2 C (rI CPow fun i j => .int (i ^ j.toNat)) powD := o_i2 (fun i j h => show CPow i j from of_decide_eq_true (p := (0 ≤ j ∧ j ≤ 1000000 ∧ i.natAbs < 2 ^ 64)) h) fun _ _ _ => .int _
/-- * : ints (one below 2^64, or both below 2^4000), a list times an int -/
def mulC (i j : Int) : Bool := decide ((-(2 ^ 64) < i ∧ i < 2 ^ 64) ∨ (-(2 ^ 64) < j ∧ j < 2 ^ 64)) || decide (i.natAbs.log2 + j.natAbs.log2 < 1000000)
def mulD : PD → PD → R PD
  | .int i, .int j => if mulC i j = true then .ok (.int (i * j)) else .stuck
  | .list xs, .int k => if -(2 ^ 63) ≤ k ∧ k < 2 ^ 63 ∧ xs.length * k.toNat ≤ szN then .ok (.list (List.replicate k.toNat xs).flatten) else .stuck
  | _, _ => .stuck
def rMulD : R2 := rOr (rI CMul fun i j => .int (i * j)) (rOr (rI CMulW fun i j => .int (i * j)) rRep)
theorem op_mulD {X : Cx} : OpR X (binaryOp .Mult) rMulD := opOr op_mul (opOr op_mulW op_rep)
theorem o_mul : Op2 C rMulD mulD := fun Y Z H v w x y Q hyz hz hx hy q => by
  cases x with
  | int i =>
    cases y with
    | int j =>
      unfold mulD at q
      dsimp only at q
      split at q
      · rename_i hl
        have hl' : decide ((-(2 ^ 64) < i ∧ i < 2 ^ 64) ∨ (-(2 ^ 64) < j ∧ j < 2 ^ 64)) = true ∨ decide (i.natAbs.log2 + j.natAbs.log2 < 1000000) = true := Bool.or_eq_true_iff.mp hl
        rcases hl' with h | h
        · exact .inl ⟨i, j, hx.int, hy.int, show CMul i j from of_decide_eq_true (p := ((-(2 ^ 64) < i ∧ i < 2 ^ 64) ∨ (-(2 ^ 64) < j ∧ j < 2 ^ 64))) h, q _ H (Ex.refl H) (.int _)⟩
        · exact .inr (.inl ⟨i, j, hx.int, hy.int, show CMulW i j from of_decide_eq_true (p := (i.natAbs.log2 + j.natAbs.log2 < 1000000)) h, q _ H (Ex.refl H) (.int _)⟩)
      · exact q.elim
    | _ => exact q.elim
  | list a =>
    cases y with
    | int k =>
      unfold mulD at q
      dsimp only at q
      split at q
      · rename_i hl
        obtain ⟨p, xs, rfl, h1, r1⟩ := hx.lst hyz
        exact .inr (.inr ⟨p, k, xs, rfl, hy.int, h1, hl.1, hl.2.1, sz_of (by rw [r1.length]; exact hl.2.2), fun n hn => q _ _ (Ex.new hn) (Rp.newL hz hn (r1.rep _))⟩)
      · exact q.elim
    | _ => exact q.elim
  | _ => exact q.elim
def negD : PD → R PD
  | .int i => .ok (.int (-i))
  | _ => .stuck
theorem o_neg : Op1 C (rU fun i => .int (-i)) negD := fun Y Z H v x Q hyz hz hx q => by
  cases x with
  | int i => exact ⟨i, hx.int, q _ H (Ex.refl H) (.int _)⟩
  | _ => exact q.elim

/-! ### == -/
def sc2 : PD → PD → Option Bool
  | .str a, .str b => some (decide (a = b))
  | .int a, .int b => some (decide (a = b))
  | .bool a, .bool b => some (decide (a = b))
  | .none, .none => some true
  | .none, .str _ => some false
  | .str _, .none => some false
  | _, _ => none
def eqD (x y : PD) : R PD := match sc2 x y with
  | some b => .ok (.bool b)
  | none => if (SeqAt.shaped x && SeqAt.shaped y) = true then .ok (.bool (PyData.eqv x y)) else .stuck
def neD (x y : PD) : R PD := match sc2 x y with
  | some b => .ok (.bool (!b))
  | none => if (SeqAt.shaped x && SeqAt.shaped y) = true then .ok (.bool (!PyData.eqv x y)) else .stuck
def rEqA (K : PySem.W.Frag) : R2 := rOr rEq (rEqD K)
def rNeA (K : PySem.W.Frag) : R2 := rOr rNe (rNeD K)
theorem op_eqA {X : Cx} (hu : X.A.units + 64 < cLine) : OpR X (compareOp .Eq) (rEqA X.K) := opOr op_eq (op_eqD hu)
theorem op_neA {X : Cx} (hu : X.A.units + 64 < cLine) : OpR X (compareOp .NotEq) (rNeA X.K) := opOr op_ne (op_neD hu)
mutual
theorem Rp.dp {K : PySem.W.Frag} {H : Hp} : ∀ {d : PD} {v : V}, Rp K H v d → PyData.canLay0 d = true → Dp K H v d
  | _, _, .non, _ => .non
  | _, _, .bl b, _ => .bl b
  | _, _, .int b, _ => .int b
  | _, _, .str b, _ => .str b
  | _, _, .lst h r, c => .lst (.inl (.inl h)) (RpA.dp r (by simpa [PyData.canLay0] using c))
  | _, _, .tup h r, c => .tup h (RpA.dp r (by simpa [PyData.canLay0] using c))
  | _, _, .dct _ _, c => by simp [PyData.canLay0] at c
theorem RpA.dp {K : PySem.W.Frag} {H : Hp} : ∀ {d : List PD} {v : List V}, RpA K H v d → PyData.canLayAll0 d = true → DpAll K H v d
  | _, _, .nil, _ => .nil
  | _, _, .cons h r, c => by
    simp only [PyData.canLayAll0, Bool.and_eq_true] at c
    exact .cons (Rp.dp h c.1) (RpA.dp r c.2)
end
theorem sc2_scal {K : PySem.W.Frag} {Hs H : Hp} {v w : V} {x y : PD} {b : Bool} (e : sc2 x y = some b) (hx : RpL K Hs H v x) (hy : RpL K Hs H w y) : scal v w = true ∧ decide (v = w) = b := by
  unfold sc2 at e
  split at e
  · rw [hx.str, hy.str, ← Option.some.inj e]
    exact ⟨rfl, by simp⟩
  · rw [hx.int, hy.int, ← Option.some.inj e]
    exact ⟨rfl, by simp⟩
  · rw [hx.bl, hy.bl, ← Option.some.inj e]
    exact ⟨rfl, by simp⟩
  · rw [hx.non, hy.non, ← Option.some.inj e]
    exact ⟨rfl, by simp⟩
  · rw [hx.non, hy.str, ← Option.some.inj e]
    exact ⟨rfl, by simp⟩
  · rw [hx.str, hy.non, ← Option.some.inj e]
    exact ⟨rfl, by simp⟩
  · cases e
theorem o_eq : Op2 C (rEqA C.K) eqD := fun Y Z H v w x y Q hyz hz hx hy q => by
  unfold eqD at q
  cases e : sc2 x y with
  | some b =>
    rw [e] at q
    obtain ⟨h1, h2⟩ := sc2_scal e hx hy
    exact .inl ⟨h1, by rw [h2]; exact q _ H (Ex.refl H) (.bl _)⟩
  | none =>
    rw [e] at q
    dsimp only at q
    split at q
    · rename_i hl
      obtain ⟨s1, s2⟩ := Bool.and_eq_true_iff.mp hl
      exact .inr ⟨x, y, ((hx.rp (hid_less hyz)).mono hid_ex.le).dp (SeqAt.canLay_of_shaped s1), ((hy.rp (hid_less hyz)).mono hid_ex.le).dp (SeqAt.canLay_of_shaped s2), s1, s2, q _ H (Ex.refl H) (.bl _)⟩
    · exact q.elim
theorem o_ne : Op2 C (rNeA C.K) neD := fun Y Z H v w x y Q hyz hz hx hy q => by
  unfold neD at q
  cases e : sc2 x y with
  | some b =>
    rw [e] at q
    obtain ⟨h1, h2⟩ := sc2_scal e hx hy
    exact .inl ⟨h1, by rw [h2]; exact q _ H (Ex.refl H) (.bl _)⟩
  | none =>
    rw [e] at q
    dsimp only at q
    split at q
    · rename_i hl
      obtain ⟨s1, s2⟩ := Bool.and_eq_true_iff.mp hl
      exact .inr ⟨x, y, ((hx.rp (hid_less hyz)).mono hid_ex.le).dp (SeqAt.canLay_of_shaped s1), ((hy.rp (hid_less hyz)).mono hid_ex.le).dp (SeqAt.canLay_of_shaped s2), s1, s2, q _ H (Ex.refl H) (.bl _)⟩
    · exact q.elim

/-! ### items, slices -/
def ixD : PD → PD → R PD
  | .list xs, .int i => match atI xs i with
    | some d => .ok d
    | none => .stuck
  | .tuple xs, .int i => match atI xs i with
    | some d => .ok d
    | none => .stuck
  | .str z, .int i => match atI z.cps.toList i with
    | some c => if z.length ≤ szN then .ok (.str ⟨#[c]⟩) else .stuck
    | none => .stuck
  | _, _ => .stuck
theorem RpA.atI {K : PySem.W.Frag} {H : Hp} {xs : List V} {ds : List PD} {i : Int} {d : PD} (h : RpA K H xs ds) (e : L2.atI ds i = some d) : ∃ v, L2.atI xs i = some v ∧ Rp K H v d := by
  unfold L2.atI at e ⊢
  rw [h.length]
  cases q : ixN ds.length i with
  | none => rw [q] at e; cases e
  | some j =>
    rw [q] at e
    exact h.get e
theorem o_ix : Op2 C (rIx C.K) ixD := fun Y Z H v w x y Q hyz hz hx hy q => by
  unfold ixD at q
  split at q
  · rename_i xs i
    split at q
    · rename_i d e
      obtain ⟨p, vs, rfl, h1, r1⟩ := hx.lst hyz
      obtain ⟨u, e2, hu⟩ := r1.atI e
      exact .inl ⟨p, vs, i, u, rfl, hy.int, SqL.of h1, e2, q _ H (Ex.refl H) hu⟩
    · exact q.elim
  · rename_i xs i
    split at q
    · rename_i d e
      obtain ⟨p, vs, rfl, h1, r1⟩ := hx.tup hyz
      obtain ⟨u, e2, hu⟩ := r1.atI e
      exact .inr (.inl ⟨p, vs, i, u, rfl, hy.int, h1, e2, q _ H (Ex.refl H) hu⟩)
    · exact q.elim
  · rename_i z i
    split at q
    · rename_i c e
      split at q
      · rename_i hl
        exact .inr (.inr ⟨z, i, c, hx.str, hy.int, sz_of hl, e, q _ H (Ex.refl H) (.str _)⟩)
      · exact q.elim
    · exact q.elim
  · exact q.elim
def cutD (xs : List PD) (lo hi : Option Int) : List PD := (xs.drop (HT.sIx xs.length 0 lo)).take (HT.sIx xs.length xs.length hi - HT.sIx xs.length 0 lo)
theorem RpA.cut {K : PySem.W.Frag} {H : Hp} {xs : List V} {ds : List PD} (h : RpA K H xs ds) (lo hi : Option Int) : RpA K H (cutV xs lo hi) (cutD ds lo hi) := by
  unfold cutV cutD
  rw [h.length]
  exact (h.drop _).take _
def slD : PD → Option Int → Option Int → R PD
  | .list xs, lo, hi => .ok (.list (cutD xs lo hi))
  | .str z, lo, hi => if z.length ≤ szN then .ok (.str (cutS z lo hi)) else .stuck
  | _, _, _ => .stuck
def dOno : En → R (Option Int) := fun _ => .ok none
def dOso (fa : En → R PD) : En → R (Option Int) := fun en => (fa en).bind fun x => match x with
  | .int i => .ok (some i)
  | _ => .stuck
theorem eo_none : EdO C tNoPart dOno := fun H0 ext reg en σ H rs Q w => w H (Ex.refl H)
theorem eo_some {ta : TE} {fa : En → R PD} (h : EdL C ta fa) : EdO C (tPart ta) (dOso fa) := fun H0 ext reg en σ H rs Q w =>
  h.seq rs (W := WrO C H Q) w (fun _ q => q) (fun q => q) fun x v H2 e2 r2 h2 w2 => by
    cases x with
    | int i => exact ⟨i, h2.int, w2 H2 e2⟩
    | _ => exact w2.elim
end
end Dn

namespace Dn
open PySem L2

section
variable {K : PySem.W.Frag} {Hs H : Hp} {vs : List V} {x y : PD}
theorem RpLA.zero (h : RpLA K Hs H vs []) : vs = [] := by cases h; rfl
theorem RpLA.one (h : RpLA K Hs H vs [x]) : ∃ v, vs = [v] ∧ RpL K Hs H v x := by
  cases h with
  | cons a r => cases r; exact ⟨_, rfl, a⟩
theorem RpLA.two (h : RpLA K Hs H vs [x, y]) : ∃ v w, vs = [v, w] ∧ RpL K Hs H v x ∧ RpL K Hs H w y := by
  cases h with
  | cons a r =>
    cases r with
    | cons b r => cases r; exact ⟨_, _, rfl, a, b⟩
end

section
variable {C : Cn} {ta tb te : TE} {fa fb : En → R PD}
/-! ### slices -/
def dSl (fa : En → R PD) (fl fh : En → R (Option Int)) : En → R PD := fun en => (fa en).bind fun x => (fl en).bind fun l => (fh en).bind fun u => slD x l u
def rSlD (K : PySem.W.Frag) : V → Option Int → Option Int → Hp → VK → Prop := fun x lo hi H Q => rSlL K x lo hi H Q ∨ rSlS x lo hi H Q
theorem sl_D {X : Cx} : SlR X (rSlD X.K) := sl_list.or sl_str
theorem ed_sl {tl th : TO} {fl fh : En → R (Option Int)} (h : EdL C ta fa) (hl : EdO C tl fl) (hh : EdO C th fh) : EdS C (tSl (rSlD C.K) ta tl th) (dSl fa fl fh) := fun H0 ext reg en σ H rs Q w =>
  h.seq rs (W := WrS C (own ext reg) H Q) w (fun _ q => q) (fun q => q) fun x v H2 e2 r2 h2 w2 =>
    hl.seq r2 (W := WrS C (own ext reg) H2 Q) (WrS.ex w2 e2) (fun _ q => q) (fun q => q) fun l H3 e3 r3 w3 =>
      hh.seq r3 (W := WrS C (own ext reg) H3 Q) (WrS.ex w3 e3) (fun _ q => q) (fun q => q) fun u H4 e4 r4 w4 => by
        have w5 := WrS.ex w4 e4
        have h5 := h2.mono (e3.trans e4).hid.le (e3.trans e4).hid
        clear w4 w3 w2 w h2
        unfold slD at w5
        split at w5
        · obtain ⟨p, xs, rfl, hp, hr⟩ := h5.lst fun a z => .inl z
          exact .inl ⟨p, xs, rfl, SqL.of hp, fun q hq => w5 _ _ (Ex.new hq) (Rp.newL (fun a z => r4.there z) hq (hr.cut l u))⟩
        · split at w5
          · rename_i hl
            exact .inr ⟨_, h5.str, sz_of hl, w5 _ H4 (Ex.refl H4) (.str _)⟩
          · exact w5.elim
        · exact w5.elim

/-! ### built-ins -/
def lenD : List PD → R PD
  | [.list ds] => .ok (.int ds.length)
  | [.tuple ds] => .ok (.int ds.length)
  | [.str z] => if z.length ≤ szN then .ok (.int z.length) else .stuck
  | _ => .stuck
def rLenA (K : PySem.W.Frag) : List V → Hp → VK → Prop := fun xs H Q => ∃ x n, xs = [x] ∧ LenV K x H n ∧ Q (.int n) H
theorem n_len : OpN C (rLenA C.K) lenD := fun Y Z H vs xs Q hyz hz hx q => by
  unfold lenD at q
  split at q
  · obtain ⟨v, rfl, h⟩ := hx.one
    obtain ⟨p, ys, rfl, hp, hr⟩ := h.lst hyz
    exact ⟨.ref p, _, rfl, .inl ⟨ys, SqL.of hp, rfl⟩, by rw [hr.length]; exact q _ H (Ex.refl H) (.int _)⟩
  · obtain ⟨v, rfl, h⟩ := hx.one
    obtain ⟨p, ys, rfl, hp, hr⟩ := h.tup hyz
    exact ⟨.ref p, _, rfl, .inr ⟨ys, hp, rfl⟩, by rw [hr.length]; exact q _ H (Ex.refl H) (.int _)⟩
  · split at q
    · rename_i z hl
      obtain ⟨v, rfl, h⟩ := hx.one
      obtain rfl := h.str
      exact ⟨.str z, _, rfl, ⟨sz_of hl, rfl⟩, q _ H (Ex.refl H) (.int _)⟩
    · exact q.elim
  · exact q.elim
def absD : List PD → R PD
  | [.int i] => .ok (.int (if i < 0 then -i else i))
  | _ => .stuck
def rAbs : List V → Hp → VK → Prop := fun xs H Q => ∃ i, xs = [.int i] ∧ Q (.int (if i < 0 then -i else i)) H
theorem n_abs : OpN C rAbs absD := fun Y Z H vs xs Q hyz hz hx q => by
  unfold absD at q
  split at q
  · obtain ⟨v, rfl, h⟩ := hx.one
    obtain rfl := h.int
    exact ⟨_, rfl, q _ H (Ex.refl H) (.int _)⟩
  · exact q.elim
def intD : List PD → R PD
  | [.int i] => .ok (.int i)
  | [.bool b] => .ok (.int (if b then 1 else 0))
  | _ => .stuck
def rInt1 : List V → Hp → VK → Prop := fun xs H Q => (∃ i, xs = [.int i] ∧ Q (.int i) H) ∨ ∃ k, xs = [.bl k] ∧ Q (.int (if k then 1 else 0)) H
theorem n_int : OpN C rInt1 intD := fun Y Z H vs xs Q hyz hz hx q => by
  unfold intD at q
  split at q
  · obtain ⟨v, rfl, h⟩ := hx.one
    obtain rfl := h.int
    exact .inl ⟨_, rfl, q _ H (Ex.refl H) (.int _)⟩
  · obtain ⟨v, rfl, h⟩ := hx.one
    obtain rfl := h.bl
    exact .inr ⟨_, rfl, q _ H (Ex.refl H) (.int _)⟩
  · exact q.elim
def asInts : List PD → Option (List Int)
  | [] => some []
  | .int i :: r => (asInts r).map (i :: ·)
  | _ :: _ => none
def asBools : List PD → Option (List Bool)
  | [] => some []
  | .bool i :: r => (asBools r).map (i :: ·)
  | _ :: _ => none
def asStrs : List PD → Option (List Str)
  | [] => some []
  | .str i :: r => (asStrs r).map (i :: ·)
  | _ :: _ => none
theorem asInts_map (ns : List Int) : asInts (ns.map .int) = some ns := by
  induction ns with
  | nil => rfl
  | cons a r ih => show (asInts (r.map .int)).map _ = _; rw [ih]; rfl
theorem asBools_map (ns : List Bool) : asBools (ns.map .bool) = some ns := by
  induction ns with
  | nil => rfl
  | cons a r ih => show (asBools (r.map .bool)).map _ = _; rw [ih]; rfl
theorem asStrs_map (ns : List Str) : asStrs (ns.map .str) = some ns := by
  induction ns with
  | nil => rfl
  | cons a r ih => show (asStrs (r.map .str)).map _ = _; rw [ih]; rfl
theorem RpA.asInts {K : PySem.W.Frag} {H : Hp} : ∀ {vs : List V} {ds : List PD} {ns : List Int}, RpA K H vs ds → Dn.asInts ds = some ns → vs = ns.map V.int
  | _, _, ns, .nil, e => by cases e; rfl
  | _, _, ns, .cons (d := d) (ds := ds) h r, e => by
    cases d with
    | int i =>
      unfold Dn.asInts at e
      cases q : Dn.asInts ds with
      | none => rw [q] at e; cases e
      | some l =>
        rw [q] at e
        cases e
        rw [h.int', RpA.asInts r q]
        rfl
    | _ => cases e
theorem RpA.asBools {K : PySem.W.Frag} {H : Hp} : ∀ {vs : List V} {ds : List PD} {ns : List Bool}, RpA K H vs ds → Dn.asBools ds = some ns → vs = ns.map V.bl
  | _, _, ns, .nil, e => by cases e; rfl
  | _, _, ns, .cons (d := d) (ds := ds) h r, e => by
    cases d with
    | bool i =>
      unfold Dn.asBools at e
      cases q : Dn.asBools ds with
      | none => rw [q] at e; cases e
      | some l =>
        rw [q] at e
        cases e
        rw [h.bl', RpA.asBools r q]
        rfl
    | _ => cases e
theorem RpA.asStrs {K : PySem.W.Frag} {H : Hp} : ∀ {vs : List V} {ds : List PD} {ns : List Str}, RpA K H vs ds → Dn.asStrs ds = some ns → vs = ns.map V.str
  | _, _, ns, .nil, e => by cases e; rfl
  | _, _, ns, .cons (d := d) (ds := ds) h r, e => by
    cases d with
    | str i =>
      unfold Dn.asStrs at e
      cases q : Dn.asStrs ds with
      | none => rw [q] at e; cases e
      | some l =>
        rw [q] at e
        cases e
        rw [h.str', RpA.asStrs r q]
        rfl
    | _ => cases e
def sumD : List PD → R PD
  | [.list ds] => match asInts ds with
    | some ns => .ok (.int ns.sum)
    | none => .stuck
  | _ => .stuck
theorem n_sum : OpN C (rSum C.K) sumD := fun Y Z H vs xs Q hyz hz hx q => by
  unfold sumD at q
  split at q
  · split at q
    · rename_i ns e
      obtain ⟨v, rfl, h⟩ := hx.one
      obtain ⟨p, ys, rfl, hp, hr⟩ := h.lst hyz
      rw [hr.asInts e] at hp
      exact ⟨p, ns, rfl, SqL.of hp, q _ H (Ex.refl H) (.int _)⟩
    · exact q.elim
  · exact q.elim
def minI : Int → List Int → Int
  | m, [] => m
  | m, x :: r => minI (if x < m then x else m) r
theorem minI_spec : ∀ (r : List Int) (m : Int), (minI m r = m ∨ minI m r ∈ r) ∧ minI m r ≤ m ∧ ∀ y ∈ r, minI m r ≤ y
  | [], m => ⟨.inl rfl, Int.le_refl m, fun _ h => nomatch h⟩
  | x :: r, m => by
    obtain ⟨h1, h2, h3⟩ := minI_spec r (if x < m then x else m)
    refine ⟨?_, ?_, fun y hy => ?_⟩
    · show minI (if x < m then x else m) r = m ∨ minI (if x < m then x else m) r ∈ x :: r
      rcases h1 with h1 | h1
      · rw [h1]
        split
        · exact .inr List.mem_cons_self
        · exact .inl rfl
      · exact .inr (List.mem_cons_of_mem _ h1)
    · show minI (if x < m then x else m) r ≤ m
      split at h2 <;> rename_i h <;> simp only [h, if_true, if_false] <;> omega
    · show minI (if x < m then x else m) r ≤ y
      rcases List.mem_cons.mp hy with rfl | hy
      · split at h2 <;> rename_i h <;> simp only [h, if_true, if_false] <;> omega
      · exact h3 y hy
def minD : List PD → R PD
  | [.list ds] => match asInts ds with
    | some (m :: r) => .ok (.int (minI m r))
    | _ => .stuck
  | [.int i, .int j] => .ok (.int (if j < i then j else i))
  | _ => .stuck
def rMin2 : List V → Hp → VK → Prop := fun xs H Q => ∃ i j, xs = [.int i, .int j] ∧ Q (.int (if j < i then j else i)) H
def rMax2 : List V → Hp → VK → Prop := fun xs H Q => ∃ i j, xs = [.int i, .int j] ∧ Q (.int (if j > i then j else i)) H
def rMinA (K : PySem.W.Frag) := cOr (rMin K) rMin2
theorem c_min {X : Cx} (hc : X.calm = true) : CallR X (.builtin "min") (rMinA X.K) := callOr (cr_min hc) (call_min2 hc)
theorem n_min : OpN C (rMinA C.K) minD := fun Y Z H vs xs Q hyz hz hx q => by
  unfold minD at q
  split at q
  · split at q
    · rename_i m r e
      obtain ⟨v, rfl, h⟩ := hx.one
      obtain ⟨p, ys, rfl, hp, hr⟩ := h.lst hyz
      rw [hr.asInts e] at hp
      refine .inl ⟨p, m :: r, rfl, SqL.of hp, Nat.succ_pos _, fun k hk hle => ?_⟩
      obtain ⟨h1, h2, h3⟩ := minI_spec r m
      have a1 : k ≤ minI m r := hle _ (by
        rcases h1 with h1 | h1
        · rw [h1]; exact List.mem_cons_self
        · exact List.mem_cons_of_mem _ h1)
      have a2 : minI m r ≤ k := by
        rcases List.mem_cons.mp hk with rfl | hk
        · exact h2
        · exact h3 _ hk
      rw [Int.le_antisymm a1 a2]
      exact q _ H (Ex.refl H) (.int _)
    · exact q.elim
  · rename_i i j
    obtain ⟨v, w, rfl, h1, h2⟩ := hx.two
    obtain rfl := h1.int
    obtain rfl := h2.int
    exact .inr ⟨i, j, rfl, q _ H (Ex.refl H) (.int _)⟩
  · exact q.elim
def max2D : List PD → R PD
  | [.int i, .int j] => .ok (.int (if j > i then j else i))
  | _ => .stuck
theorem n_max2 : OpN C rMax2 max2D := fun Y Z H vs xs Q hyz hz hx q => by
  unfold max2D at q
  split at q
  · rename_i i j
    obtain ⟨v, w, rfl, h1, h2⟩ := hx.two
    obtain rfl := h1.int
    obtain rfl := h2.int
    exact ⟨i, j, rfl, q _ H (Ex.refl H) (.int _)⟩
  · exact q.elim
def anyD : List PD → R PD
  | [.list ds] => match asBools ds with
    | some bs => .ok (.bool (bs.any id))
    | none => .stuck
  | _ => .stuck
def allD : List PD → R PD
  | [.list ds] => match asBools ds with
    | some bs => .ok (.bool (bs.all id))
    | none => .stuck
  | _ => .stuck
theorem n_any : OpN C (rAny C.K) anyD := fun Y Z H vs xs Q hyz hz hx q => by
  unfold anyD at q
  split at q
  · split at q
    · rename_i bs e
      obtain ⟨v, rfl, h⟩ := hx.one
      obtain ⟨p, ys, rfl, hp, hr⟩ := h.lst hyz
      rw [hr.asBools e] at hp
      exact ⟨p, bs, rfl, SqL.of hp, q _ H (Ex.refl H) (.bl _)⟩
    · exact q.elim
  · exact q.elim
theorem n_all : OpN C (rAll C.K) allD := fun Y Z H vs xs Q hyz hz hx q => by
  unfold allD at q
  split at q
  · split at q
    · rename_i bs e
      obtain ⟨v, rfl, h⟩ := hx.one
      obtain ⟨p, ys, rfl, hp, hr⟩ := h.lst hyz
      rw [hr.asBools e] at hp
      exact ⟨p, bs, rfl, SqL.of hp, q _ H (Ex.refl H) (.bl _)⟩
    · exact q.elim
  · exact q.elim

/-! ### isinstance -/
def tyN : PD → String
  | .none => "NoneType"
  | .bool _ => "bool"
  | .int _ => "int"
  | .str _ => "str"
  | .list _ => "list"
  | .tuple _ => "tuple"
  | .dict _ => "dict"
theorem RpL.ty {K : PySem.W.Frag} {H : Hp} {Y Z : AS} {v : V} {d : PD} (h : RpL K (hid H Z) (hid H Y) v d) (i : ∀ a, Y a → Z a) : TyX K H v (.type (tyN d)) := by
  cases d with
  | none => rw [h.non]; exact .base .non
  | bool b => rw [h.bl]; exact .base (.bl b)
  | int b => rw [h.int]; exact .base (.int b)
  | str b => rw [h.str]; exact .base (.str b)
  | list ds =>
    obtain ⟨p, xs, rfl, hp, _⟩ := h.lst i
    exact .base (.lst hp)
  | tuple ds =>
    obtain ⟨p, xs, rfl, hp, _⟩ := h.tup i
    rcases hp with (hp | ⟨o, hp⟩) | ⟨o, its, n, h1, h2, _⟩
    · exact .base (.tup hp)
    · exact .fTuple hp
    · exact .kTuple h1 h2
  | dict ds =>
    obtain ⟨p, xs, rfl, hp, _⟩ := h.dct i
    rcases hp with hp | ⟨o, hp⟩
    · exact .base (.dK hp)
    · exact .fDict hp
def isiD (g : PD → Bool) : PD → R PD := fun d => .ok (.bool (g d))
theorem ed_isi {T : String} {g : PD → Bool} (hT : ∀ d, kitB (tyN d) T = some (g d)) (h : EdL C ta fa) : EdS C (tCB (rIsi C.K) (tCons ta (tCons (tC (.ty T)) tNil))) (d1 (isiD g) fa) := fun H0 ext reg en σ H rs Q w =>
  h.seq rs (W := WrS C (own ext reg) H Q) w (fun _ q => q) (fun q => q) fun x v H2 e2 r2 h2 w2 =>
    ⟨v, .ty T, .type (tyN x), .type T, g x, rfl, .ty T, h2.ty fun a z => .inl z, kit_ty (hT x), w2 _ H2 e2 (.bl _)⟩
def isIntD : PD → Bool | .int _ => true | .bool _ => true | _ => false
def isBoolD : PD → Bool | .bool _ => true | _ => false
def isStrD : PD → Bool | .str _ => true | _ => false
def isListD : PD → Bool | .list _ => true | _ => false
def isTupD : PD → Bool | .tuple _ => true | _ => false
def isDictD : PD → Bool | .dict _ => true | _ => false
theorem kit_int (d : PD) : kitB (tyN d) "int" = some (isIntD d) := by cases d <;> simp only [tyN, isIntD] <;> decide +kernel
theorem kit_bool (d : PD) : kitB (tyN d) "bool" = some (isBoolD d) := by cases d <;> simp only [tyN, isBoolD] <;> decide +kernel
theorem kit_str (d : PD) : kitB (tyN d) "str" = some (isStrD d) := by cases d <;> simp only [tyN, isStrD] <;> decide +kernel
theorem kit_list (d : PD) : kitB (tyN d) "list" = some (isListD d) := by cases d <;> simp only [tyN, isListD] <;> decide +kernel
theorem kit_tuple (d : PD) : kitB (tyN d) "tuple" = some (isTupD d) := by cases d <;> simp only [tyN, isTupD] <;> decide +kernel
theorem kit_dict (d : PD) : kitB (tyN d) "dict" = some (isDictD d) := by cases d <;> simp only [tyN, isDictD] <;> decide +kernel

/-! ### calls of defs -/
/-- what a def promises: F of its arguments -/
def spF (C0 : PySem.W.Frag) (cl : Str → Addr) (n : Nat) (F : List PD → R PD) : Sp := fun vs H Q E => ∃ (ext : AS) (ds : List PD), vs.length = n ∧ (∀ a, ext a → ∃ o, H a = some o) ∧ RpA C0 (hid H ext) vs ds ∧ WrS ⟨C0, E, cl⟩ ext H Q (F ds)
def dCall (F : List PD → R PD) (fa : En → R (List PD)) : En → R PD := fun en => (fa en).bind F
theorem WrA.len {Z : AS} {H : Hp} {vs : List V} {ds : List PD} {K : PySem.W.Frag} (h : RpA K (hid H Z) vs ds) : vs.length = ds.length := h.length
theorem ed_call {n : Nat} {F : List PD → R PD} {ta : TA} {fa : En → R (List PD)} (hn : ∀ en ds, fa en = .ok ds → ds.length = n) (h : EdA C ta fa) : EdS C (tCall (spF C.K C.cl n F) [] C.E ta) (dCall F fa) := fun H0 ext reg en σ H rs Q w => by
  refine h H0 ext reg en σ H rs _ ?_
  unfold dCall at w
  cases e : fa en with
  | ok ds =>
    rw [e] at w
    exact fun vs H2 e2 h2 => ⟨own ext reg, ds, by rw [List.append_nil, h2.length, hn en ds e], fun a z => (rs.ex e2).there z, by rw [List.append_nil]; exact h2, WrS.ex w e2⟩
  | exc c => rw [e] at w; exact w
  | stuck => rw [e] at w; exact w.elim
end
end Dn

namespace Dn
open PySem L2

/-! ### slots set -/
def drp (reg : Nat → AS) (i : Nat) : Nat → AS := fun j a => j ≠ i ∧ reg j a
def put (reg : Nat → AS) (i : Nat) (p : Addr) : Nat → AS := fun j a => (j ≠ i ∧ reg j a) ∨ (j = i ∧ a = p)
section
variable {K : PySem.W.Frag} {H0 H : Hp} {ext : AS} {reg : Nat → AS} {en : En} {σ : L2.St}
theorem own_drp {i : Nat} {a : Addr} (h : own ext (drp reg i) a) : own ext reg a := by
  rcases h with h | ⟨j, _, h⟩
  · exact .inl h
  · exact .inr ⟨j, h⟩
theorem RS.set (r : RS K H0 ext reg en σ H) {i : Nat} {v : V} {d : PD} (h : Rp K (hid H (own ext reg)) v d) : RS K H0 ext (drp reg i) (en.set i (.sh d)) (σ.set i (some v)) H :=
  ⟨r.le, r.exd, fun j a ⟨_, q⟩ => r.rg j a q, fun j k a ⟨_, q⟩ ⟨_, q'⟩ => r.dj j k a q q', fun j a ⟨hj, q⟩ => let ⟨sv, h1, h2⟩ := r.ro j a q; ⟨sv, by rw [List.getElem?_set_ne (Ne.symm hj)]; exact h1, h2⟩, by simp [r.len], fun j sv e => by
    have up : Ex (hid H (own ext reg)) (hid H (own ext (drp reg i))) := (Ex.refl H).hidLess fun a z => own_drp z
    by_cases hj : i = j
    · subst hj
      by_cases hi : i < en.length
      · rw [List.getElem?_set_self hi] at e
        cases e
        exact ⟨some v, by rw [List.getElem?_set_self (by rw [r.len]; exact hi)], v, rfl, h.mono up.le⟩
      · rw [List.getElem?_eq_none (by simpa using hi)] at e
        cases e
    · rw [List.getElem?_set_ne hj] at e
      obtain ⟨u, h1, h2⟩ := r.sl j sv e
      refine ⟨u, by rw [List.getElem?_set_ne hj]; exact h1, ?_⟩
      have h3 := h2.mono (H' := H) up.le (fun _ _ q => up.sql q) fun _ _ _ q => q
      revert h3
      cases sv with
      | no => exact fun _ => trivial
      | sh d => exact id
      | ol ds => exact fun ⟨p, xs, a, b, c⟩ => ⟨p, xs, a, ⟨fun z => hj z.symm, b⟩, c⟩
      | od ds => exact fun ⟨p, xs, a, b, c⟩ => ⟨p, xs, a, ⟨fun z => hj z.symm, b⟩, c⟩
      | rl ds => exact id⟩
/-- a slot that takes a new thing for its own -/
theorem RS.new (r : RS K H0 ext reg en σ H) {i : Nat} {p : Addr} {o : HO} {sv : SV} (hil : i < en.length) (ho : isOwn sv = true) (hp : H p = none) (h : SlotOk K (hid H (own ext reg)) (upd H p o) (some (.ref p)) (fun a => a = p) sv) :
    RS K H0 ext (put reg i p) (en.set i sv) (σ.set i (some (.ref p))) (upd H p o) := by
  have h0 : H0 p = none := r.le.back hp
  have sub : ∀ a, own ext (put reg i p) a → own ext reg a ∨ a = p := fun a z => by
    rcases z with z | ⟨j, ⟨_, z⟩ | ⟨_, z⟩⟩
    · exact .inl (.inl z)
    · exact .inl (.inr ⟨j, z⟩)
    · exact .inr z
  have up : Ex (hid H (own ext reg)) (hid (upd H p o) (own ext (put reg i p))) := fun a u q => by
    obtain ⟨z, q⟩ := hid_some q
    have ne : a ≠ p := fun e => by
      rw [e, hp] at q
      cases q
    rw [hid_at fun t => (sub a t).elim z ne, upd_ne ne]
    exact q
  refine ⟨r.le.mut h0, r.exd, ?_, ?_, ?_, by simp [r.len], fun j sv' e => ?_⟩
  · rintro j a (⟨hj, q⟩ | ⟨_, rfl⟩)
    · obtain ⟨q1, u, q2⟩ := r.rg j a q
      exact ⟨q1, u, (Ex.new hp) a u q2⟩
    · exact ⟨h0, o, upd_same⟩
  · rintro j k a (⟨_, q⟩ | ⟨rfl, rfl⟩) (⟨_, q'⟩ | ⟨rfl, e⟩)
    · exact r.dj j k a q q'
    · subst e
      obtain ⟨_, u, q2⟩ := r.rg _ _ q
      rw [hp] at q2
      cases q2
    · obtain ⟨_, u, q2⟩ := r.rg _ _ q'
      rw [hp] at q2
      cases q2
    · rfl
  · rintro j a (⟨hj, q⟩ | ⟨rfl, _⟩)
    · obtain ⟨sv', h1, h2⟩ := r.ro j a q
      exact ⟨sv', by rw [List.getElem?_set_ne (Ne.symm hj)]; exact h1, h2⟩
    · exact ⟨sv, by rw [List.getElem?_set_self hil], ho⟩
  · by_cases hj : i = j
    · subst hj
      by_cases hi : i < en.length
      · rw [List.getElem?_set_self hi] at e
        cases e
        refine ⟨some (.ref p), by rw [List.getElem?_set_self (by rw [r.len]; exact hi)], ?_⟩
        have h3 := h.mono (H' := upd H p o) up.le (fun _ _ q => up.sql q) fun _ _ _ q => q
        revert h3
        cases sv with
        | no => exact fun _ => trivial
        | sh d => exact id
        | ol ds => exact fun ⟨p', xs, a, b, c⟩ => ⟨p', xs, a, .inr ⟨rfl, b⟩, c⟩
        | od ds => exact fun ⟨p', xs, a, b, c⟩ => ⟨p', xs, a, .inr ⟨rfl, b⟩, c⟩
        | rl ds => exact id
      · rw [List.getElem?_eq_none (by simpa using hi)] at e
        cases e
    · rw [List.getElem?_set_ne hj] at e
      obtain ⟨u, h1, h2⟩ := r.sl j sv' e
      refine ⟨u, by rw [List.getElem?_set_ne hj]; exact h1, ?_⟩
      have h3 := h2.mono (H' := upd H p o) up.le (fun _ _ q => up.sql q) fun a u' z q => (Ex.new hp) a u' q
      revert h3
      cases sv' with
      | no => exact fun _ => trivial
      | sh d => exact id
      | ol ds => exact fun ⟨p', xs, a, b, c⟩ => ⟨p', xs, a, .inl ⟨fun z => hj z.symm, b⟩, c⟩
      | od ds => exact fun ⟨p', xs, a, b, c⟩ => ⟨p', xs, a, .inl ⟨fun z => hj z.symm, b⟩, c⟩
      | rl ds => exact id
/-- what a slot owns is written -/
theorem RS.wr (r : RS K H0 ext reg en σ H) {i : Nat} {p : Addr} {o : HO} {sv : SV} (ho : isOwn sv = true) (hi : reg i p) (hv : σ[i]? = some (some (.ref p)))
    (h : SlotOk K (hid H (own ext reg)) (upd H p o) (some (.ref p)) (reg i) sv) : RS K H0 ext reg (en.set i sv) σ (upd H p o) := by
  have same : hid (upd H p o) (own ext reg) = hid H (own ext reg) := hid_upd (.inr ⟨i, hi⟩)
  refine ⟨r.le.mut (r.rg i p hi).1, r.exd, fun j a q => ⟨(r.rg j a q).1, ?_⟩, r.dj, fun j a q => ?_, by simp [r.len], fun j sv' e => ?_⟩
  · by_cases ha : a = p
    · rw [ha]; exact ⟨o, upd_same⟩
    · obtain ⟨u, q2⟩ := (r.rg j a q).2
      exact ⟨u, by rw [upd_ne ha]; exact q2⟩
  · obtain ⟨sv', h1, h2⟩ := r.ro j a q
    by_cases hj : i = j
    · subst hj
      exact ⟨sv, by rw [List.getElem?_set_self (List.getElem?_eq_some_iff.mp h1).1], ho⟩
    · exact ⟨sv', by rw [List.getElem?_set_ne hj]; exact h1, h2⟩
  · rw [same]
    by_cases hj : i = j
    · subst hj
      by_cases hl : i < en.length
      · rw [List.getElem?_set_self hl] at e
        cases e
        exact ⟨some (.ref p), hv, h⟩
      · rw [List.getElem?_eq_none (by simpa using hl)] at e
        cases e
    · rw [List.getElem?_set_ne hj] at e
      obtain ⟨u, h1, h2⟩ := r.sl j sv' e
      exact ⟨u, h1, h2.mono (Ex.refl _).le (fun _ _ q => q) fun a u' z q => by
        rw [upd_ne fun e => by
          rw [e] at z
          exact hj (r.dj i j p hi z)]
        exact q⟩
/-- what a slot owned is shared from now on -/
theorem RS.share (r : RS K H0 ext reg en σ H) {i : Nat} {ds : List PD} (h : en[i]? = some (.ol ds)) : RS K H0 ext (drp reg i) (en.set i (.sh (.list ds))) σ H := by
  obtain ⟨v, h1, p, xs, rfl, hp, hH, hr⟩ := r.sl i _ h
  have up : Ex (hid H (own ext reg)) (hid H (own ext (drp reg i))) := (Ex.refl H).hidLess fun a z => own_drp z
  have np : ¬ own ext (drp reg i) p := fun z => by
    rcases z with z | ⟨j, hj, z⟩
    · exact r.noext hp z
    · exact hj (r.dj j i p z hp)
  have hs : Rp K (hid H (own ext (drp reg i))) (.ref p) (.list ds) := .lst (by rw [hid_at np]; exact hH) (hr.mono up.le)
  refine ⟨r.le, r.exd, fun j a ⟨_, q⟩ => r.rg j a q, fun j k a ⟨_, q⟩ ⟨_, q'⟩ => r.dj j k a q q', fun j a ⟨hj, q⟩ => let ⟨sv, h1, h2⟩ := r.ro j a q; ⟨sv, by rw [List.getElem?_set_ne (Ne.symm hj)]; exact h1, h2⟩, by simp [r.len], fun j sv e => ?_⟩
  by_cases hj : i = j
  · subst hj
    rw [List.getElem?_set_self (List.getElem?_eq_some_iff.mp h).1] at e
    cases e
    exact ⟨_, h1, _, rfl, hs⟩
  · rw [List.getElem?_set_ne hj] at e
    obtain ⟨u, h1, h2⟩ := r.sl j sv e
    refine ⟨u, h1, ?_⟩
    have h3 := h2.mono (H' := H) up.le (fun _ _ q => up.sql q) fun _ _ _ q => q
    revert h3
    cases sv with
    | no => exact fun _ => trivial
    | sh d => exact id
    | ol ds => exact fun ⟨p, xs, a, b, c⟩ => ⟨p, xs, a, ⟨fun z => hj z.symm, b⟩, c⟩
    | od ds => exact fun ⟨p, xs, a, b, c⟩ => ⟨p, xs, a, ⟨fun z => hj z.symm, b⟩, c⟩
    | rl ds => exact id
theorem RS.shareD (r : RS K H0 ext reg en σ H) {i : Nat} {ds : List (PD × PD)} (h : en[i]? = some (.od ds)) : RS K H0 ext (drp reg i) (en.set i (.sh (.dict ds))) σ H := by
  obtain ⟨v, h1, p, xs, rfl, hp, hH, hr⟩ := r.sl i _ h
  have up : Ex (hid H (own ext reg)) (hid H (own ext (drp reg i))) := (Ex.refl H).hidLess fun a z => own_drp z
  have np : ¬ own ext (drp reg i) p := fun z => by
    rcases z with z | ⟨j, hj, z⟩
    · exact r.noext hp z
    · exact hj (r.dj j i p z hp)
  have hs : Rp K (hid H (own ext (drp reg i))) (.ref p) (.dict ds) := .dct (.inl (by rw [hid_at np]; exact hH)) (hr.mono up.le)
  refine ⟨r.le, r.exd, fun j a ⟨_, q⟩ => r.rg j a q, fun j k a ⟨_, q⟩ ⟨_, q'⟩ => r.dj j k a q q', fun j a ⟨hj, q⟩ => let ⟨sv, h1, h2⟩ := r.ro j a q; ⟨sv, by rw [List.getElem?_set_ne (Ne.symm hj)]; exact h1, h2⟩, by simp [r.len], fun j sv e => ?_⟩
  by_cases hj : i = j
  · subst hj
    rw [List.getElem?_set_self (List.getElem?_eq_some_iff.mp h).1] at e
    cases e
    exact ⟨_, h1, _, rfl, hs⟩
  · rw [List.getElem?_set_ne hj] at e
    obtain ⟨u, h1, h2⟩ := r.sl j sv e
    refine ⟨u, h1, ?_⟩
    have h3 := h2.mono (H' := H) up.le (fun _ _ q => up.sql q) fun _ _ _ q => q
    revert h3
    cases sv with
    | no => exact fun _ => trivial
    | sh d => exact id
    | ol ds => exact fun ⟨p, xs, a, b, c⟩ => ⟨p, xs, a, ⟨fun z => hj z.symm, b⟩, c⟩
    | od ds => exact fun ⟨p, xs, a, b, c⟩ => ⟨p, xs, a, ⟨fun z => hj z.symm, b⟩, c⟩
    | rl ds => exact id
/-- a slot forgotten that owns nothing -/
theorem RS.wipeK (r : RS K H0 ext reg en σ H) (i : Nat) (h : ∀ sv, en[i]? = some sv → isOwn sv = false) : RS K H0 ext reg (en.set i .no) (σ.set i none) H :=
  ⟨r.le, r.exd, r.rg, r.dj, fun j a q => by
    obtain ⟨sv, h1, h2⟩ := r.ro j a q
    have hj : i ≠ j := fun e => by
      subst e
      rw [h sv h1] at h2
      cases h2
    exact ⟨sv, by rw [List.getElem?_set_ne hj]; exact h1, h2⟩, by simp [r.len], fun j sv e => by
    by_cases hj : i = j
    · subst hj
      by_cases hi : i < en.length
      · rw [List.getElem?_set_self hi] at e
        cases e
        exact ⟨none, by rw [List.getElem?_set_self (by rw [r.len]; exact hi)], trivial⟩
      · rw [List.getElem?_eq_none (by simpa using hi)] at e
        cases e
    · rw [List.getElem?_set_ne hj] at e
      obtain ⟨u, h1, h2⟩ := r.sl j sv e
      exact ⟨u, by rw [List.getElem?_set_ne hj]; exact h1, h2⟩⟩
end

/-! ### targets -/
def gN (i : Nat) : PD → En → R En := fun d en => .ok (en.set i (.sh d))
def gT (n : Nat) (f : List PD → En → R En) : PD → En → R En := fun d en => match d with
  | .tuple ds => if ds.length = n then f ds en else .stuck
  | _ => .stuck
def gNl : List PD → En → R En := fun ds en => match ds with
  | [] => .ok en
  | _ => .stuck
def gCn (f : PD → En → R En) (g : List PD → En → R En) : List PD → En → R En := fun ds en => match ds with
  | d :: r => (f d en).bind fun e => g r e
  | [] => .stuck
/-- what targets at the places ts leave as it was -/
structure Kp (ts : List Nat) (reg reg' : Nat → AS) (σ σ' : L2.St) : Prop where
  r1 : ∀ j a, reg' j a → reg j a
  r2 : ∀ j a, reg j a → j ∉ ts → reg' j a
  s1 : σ'.length = σ.length
  s2 : ∀ j, j ∉ ts → σ'[j]? = σ[j]?
theorem Kp.own {ts : List Nat} {reg reg' : Nat → AS} {σ σ' : L2.St} (k : Kp ts reg reg' σ σ') (ext : AS) : ∀ a, Dn.own ext reg' a → Dn.own ext reg a := fun a z => by
  rcases z with z | ⟨j, z⟩
  · exact .inl z
  · exact .inr ⟨j, k.r1 j a z⟩
def WrG (C : Cn) (ts : List Nat) (H0 : Hp) (ext : AS) (reg : Nat → AS) (σ : L2.St) (H : Hp) (Q : L2.St → Hp → Prop) : R En → Prop
  | .ok en => ∀ reg' σ', Kp ts reg reg' σ σ' → RS C.K H0 ext reg' en σ' H → Q σ' H
  | .exc _ => False
  | .stuck => False
def EdK (C : Cn) (ts : List Nat) (g : TG) (f : PD → En → R En) : Prop := ∀ (H0 : Hp) (ext : AS) (reg : Nat → AS) (en : En) (σ : L2.St) (H : Hp), RS C.K H0 ext reg en σ H → ∀ (v : V) (d : PD), Rp C.K (hid H (own ext reg)) v d → ∀ Q, WrG C ts H0 ext reg σ H Q (f d en) → g v σ H Q
def EdKs (C : Cn) (ts : List Nat) (g : TGs) (f : List PD → En → R En) : Prop := ∀ (H0 : Hp) (ext : AS) (reg : Nat → AS) (en : En) (σ : L2.St) (H : Hp), RS C.K H0 ext reg en σ H → ∀ (v : List V) (d : List PD), RpA C.K (hid H (own ext reg)) v d → ∀ Q, WrG C ts H0 ext reg σ H Q (f d en) → g v σ H Q
section
variable {C : Cn}
theorem ek_name (i : Nat) : EdK C [i] (gName i) (gN i) := fun H0 ext reg en σ H r v d h Q w => w _ _ ⟨fun j a q => q.2, fun j a q hj => ⟨by simpa using hj, q⟩, by simp, fun j hj => by rw [List.getElem?_set_ne fun e => hj (by simp [e])]⟩ (r.set h)
theorem ek_nil : EdKs C [] gNil gNl := fun H0 ext reg en σ H r v d h Q w => by
  cases d with
  | nil => cases h; exact ⟨rfl, w reg σ ⟨fun _ _ q => q, fun _ _ q _ => q, rfl, fun _ _ => rfl⟩ r⟩
  | cons a b => exact w.elim
theorem ek_cons {ts us : List Nat} {g : TG} {gs : TGs} {f : PD → En → R En} {fs : List PD → En → R En} (hg : EdK C ts g f) (hs : EdKs C us gs fs) : EdKs C (ts ++ us) (gCons g gs) (gCn f fs) := fun H0 ext reg en σ H r v d h Q w => by
  cases h with
  | nil => exact w.elim
  | cons h1 h2 =>
    rename_i v vs d ds
    refine ⟨v, vs, rfl, hg H0 ext reg en σ H r v d h1 _ ?_⟩
    unfold gCn at w
    dsimp only at w
    cases e : f d en with
    | ok en' =>
      rw [e] at w
      intro reg' σ' k r'
      refine hs H0 ext reg' en' σ' H r' vs ds (h2.mono ((Ex.refl H).hidLess (k.own ext)).le) Q ?_
      simp only [R.bind_ok] at w
      generalize fs ds en' = x at w ⊢
      cases x with
      | ok e => exact fun reg2 σ2 k2 r2 => w reg2 σ2 ⟨fun j a q => k.r1 j a (k2.r1 j a q), fun j a q hj => k2.r2 j a (k.r2 j a q fun z => hj (List.mem_append_left _ z)) fun z => hj (List.mem_append_right _ z), k2.s1.trans k.s1, fun j hj => (k2.s2 j fun z => hj (List.mem_append_right _ z)).trans (k.s2 j fun z => hj (List.mem_append_left _ z))⟩ r2
      | exc c => exact w
      | stuck => exact w
    | exc c => rw [e] at w; exact w.elim
    | stuck => rw [e] at w; exact w.elim
theorem ek_tup {ts : List Nat} {gs : TGs} {fs : List PD → En → R En} {n : Nat} (hs : EdKs C ts gs fs) : EdK C ts (gTup C.K n gs) (gT n fs) := fun H0 ext reg en σ H r v d h Q w => by
  cases d with
  | tuple ds =>
    unfold gT at w
    dsimp only at w
    cases h with
    | tup h1 h2 =>
      split at w
      · rename_i hl
        exact ⟨_, _, rfl, hid_ex.sqt h1, by rw [h2.length]; exact hl, hs H0 ext reg en σ H r _ ds h2 Q w⟩
      · exact w.elim
  | _ => exact w.elim

/-! ### what is walked -/
def Wk (K : PySem.W.Frag) (J : It) (ds : List PD) (Hs : Hp) : Prop := ∀ (Z : AS) (H : Hp), Ex Hs (hid H Z) → (∀ a, Z a → ∃ o, H a = some o) → ∀ i : Nat,
  (∀ d, ds[i]? = some d → J.go i H ∧ ∀ x H', J.yld i H x H' → Ex H H' ∧ Rp K (hid H' Z) x d) ∧ (ds.length ≤ i → J.stop i H)
def WrI (C : Cn) (Z : AS) (H : Hp) (Rr : It → Hp → Prop) : R (List PD) → Prop
  | .ok ds => ∀ J H2, Ex H H2 → Wk C.K J ds (hid H2 Z) → Rr J H2
  | .exc c => ∀ H2, Ex H H2 → C.E (.ref (C.cl c)) none H2
  | .stuck => False
def EdI (C : Cn) (wi : TI) (f : En → R (List PD)) : Prop := ∀ (H0 : Hp) (ext : AS) (reg : Nat → AS) (en : En) (σ : L2.St) (H : Hp), RS C.K H0 ext reg en σ H → ∀ Rr, WrI C (own ext reg) H Rr (f en) → wi σ H Rr
def asL : PD → R (List PD)
  | .list ds => .ok ds
  | _ => .stuck
def asT : PD → R (List PD)
  | .tuple ds => .ok ds
  | _ => .stuck
def dIt (g : PD → R (List PD)) (fa : En → R PD) : En → R (List PD) := fun en => (fa en).bind g
theorem ei_list {tl : TE} {fa : En → R PD} (h : EdS C tl fa) : EdI C (iList C.K tl) (dIt asL fa) := fun H0 ext reg en σ H rs Q w =>
  h.seq rs (W := WrI C (own ext reg) H Q) w (fun _ q => q) (fun q => q) fun x v H2 e2 r2 h2 w2 => by
    cases x with
    | list ds =>
      cases h2 with
      | lst hp hr =>
        rename_i a xs
        refine ⟨a, rfl, ⟨xs, hid_ex.sql (SqL.of hp)⟩, w2 _ H2 e2 fun Z H' e' hz i => ⟨fun d hd => ?_, fun hl => ⟨xs, SqL.of (hid_ex _ _ (e' _ _ hp)), by rw [hr.length]; exact hl⟩⟩⟩
        obtain ⟨v, hv, hr2⟩ := hr.get hd
        refine ⟨⟨xs, v, SqL.of (hid_ex _ _ (e' _ _ hp)), hv⟩, fun x H'' hy => ?_⟩
        obtain ⟨rfl, hy⟩ := hy
        have e : x = v := Option.some.inj ((hy xs (SqL.of (hid_ex _ _ (e' _ _ hp)))).symm.trans hv)
        rw [e]
        exact ⟨Ex.refl _, hr2.mono e'.le⟩
    | _ => exact w2.elim
theorem ei_tup {tl : TE} {fa : En → R PD} (h : EdS C tl fa) : EdI C (iTup C.K tl) (dIt asT fa) := fun H0 ext reg en σ H rs Q w =>
  h.seq rs (W := WrI C (own ext reg) H Q) w (fun _ q => q) (fun q => q) fun x v H2 e2 r2 h2 w2 => by
    cases x with
    | tuple ds =>
      cases h2 with
      | tup hp hr =>
        rename_i a xs
        refine ⟨a, rfl, ⟨xs, hid_ex.sqt hp⟩, w2 _ H2 e2 fun Z H' e' hz i => ⟨fun d hd => ?_, fun hl => ⟨xs, hid_ex.sqt (e'.sqt hp), by rw [hr.length]; exact hl⟩⟩⟩
        obtain ⟨v, hv, hr2⟩ := hr.get hd
        refine ⟨⟨xs, v, hid_ex.sqt (e'.sqt hp), hv⟩, fun x H'' hy => ?_⟩
        obtain ⟨rfl, hy⟩ := hy
        have e : x = v := Option.some.inj ((hy xs (hid_ex.sqt (e'.sqt hp))).symm.trans hv)
        rw [e]
        exact ⟨Ex.refl _, hr2.mono e'.le⟩
    | _ => exact w2.elim
/-- lo, lo + 1, .. below hi -/
def rngL (lo : Int) (n : Nat) : List PD := (List.range n).map fun (i : Nat) => .int (lo + (i : Int))
theorem rngL_get {lo : Int} {n i : Nat} {d : PD} (h : (rngL lo n)[i]? = some d) : i < n ∧ d = .int (lo + (i : Int)) := by
  unfold rngL at h
  rw [List.getElem?_map] at h
  by_cases hi : i < n
  · rw [List.getElem?_range hi] at h
    exact ⟨hi, (Option.some.inj h).symm⟩
  · rw [List.getElem?_eq_none (by simpa using hi)] at h
    cases h
def rng1 : List PD → R (List PD)
  | [.int j] => if -(2 ^ 62) ≤ j ∧ j < 2 ^ 62 then .ok (rngL 0 j.toNat) else .stuck
  | _ => .stuck
def rng2 : List PD → R (List PD)
  | [.int i, .int j] => if (-(2 ^ 62) ≤ i ∧ i < 2 ^ 62) ∧ -(2 ^ 62) ≤ j ∧ j < 2 ^ 62 then .ok (rngL i (j - i).toNat) else .stuck
  | _ => .stuck
def dItA (g : List PD → R (List PD)) (fa : En → R (List PD)) : En → R (List PD) := fun en => (fa en).bind g
theorem wk_rng {K : PySem.W.Frag} {lo : Int} {n : Nat} {Hs : Hp} : Wk K (Itr lo n) (rngL lo n) Hs := fun Z H e hz i => ⟨fun d hd => by
  obtain ⟨h1, rfl⟩ := rngL_get hd
  exact ⟨h1, fun x H' hy => by
    obtain ⟨rfl, rfl⟩ := hy
    exact ⟨Ex.refl _, .int _⟩⟩, fun hl => by
  unfold rngL at hl
  rw [List.length_map, List.length_range] at hl
  exact hl⟩
theorem ei_rng1 {ta : TA} {fa : En → R (List PD)} (h : EdB C ta fa) : EdI C (iRng1 ta) (dItA rng1 fa) := fun H0 ext reg en σ H rs Q w =>
  h.seq rs (W := WrI C (own ext reg) H Q) w (fun _ q => q) (fun q => q) fun x v H2 e2 r2 h2 w2 => by
    unfold rng1 at w2
    split at w2
    · rename_i j
      split at w2
      · rename_i hl
        obtain ⟨v, rfl, h⟩ := h2.one
        obtain rfl := h.int
        exact ⟨j, rfl, hl.1, hl.2, w2 _ H2 e2 wk_rng⟩
      · exact w2.elim
    · exact w2.elim
theorem ei_rng2 {ta : TA} {fa : En → R (List PD)} (h : EdB C ta fa) : EdI C (iRng2 ta) (dItA rng2 fa) := fun H0 ext reg en σ H rs Q w =>
  h.seq rs (W := WrI C (own ext reg) H Q) w (fun _ q => q) (fun q => q) fun x v H2 e2 r2 h2 w2 => by
    unfold rng2 at w2
    split at w2
    · rename_i i j
      split at w2
      · rename_i hl
        obtain ⟨v, w, rfl, h, h'⟩ := h2.two
        obtain rfl := h.int
        obtain rfl := h'.int
        exact ⟨i, j, rfl, ⟨hl.1.1, hl.1.2, hl.2.1, hl.2.2⟩, w2 _ H2 e2 wk_rng⟩
      · exact w2.elim
    · exact w2.elim
/-- pairs of two lists -/
def zipD (xs ys : List PD) : List PD := (xs.zip ys).map fun p => .tuple [p.1, p.2]
def zip2 : List PD → R (List PD)
  | [.list xs, .list ys] => .ok (zipD xs ys)
  | _ => .stuck
theorem zipD_get {xs ys : List PD} {i : Nat} {d : PD} (h : (zipD xs ys)[i]? = some d) : ∃ x y, xs[i]? = some x ∧ ys[i]? = some y ∧ d = .tuple [x, y] := by
  unfold zipD at h
  rw [List.getElem?_map] at h
  cases e : (xs.zip ys)[i]? with
  | none => rw [e] at h; cases h
  | some p =>
    rw [e] at h
    obtain ⟨h1, h2⟩ := List.getElem?_zip_eq_some.mp e
    exact ⟨_, _, h1, h2, (Option.some.inj h).symm⟩
theorem RpLA.safe2 {K : PySem.W.Frag} {Hs H : Hp} {vs : List V} {ds : List PD} : True := trivial
theorem RpA.two {K : PySem.W.Frag} {H : Hp} {vs : List V} {x y : PD} (h : RpA K H vs [x, y]) : ∃ v w, vs = [v, w] ∧ Rp K H v x ∧ Rp K H w y := by
  cases h with
  | cons a r =>
    cases r with
    | cons b r => cases r; exact ⟨_, _, rfl, a, b⟩
theorem RpA.one {K : PySem.W.Frag} {H : Hp} {vs : List V} {x : PD} (h : RpA K H vs [x]) : ∃ v, vs = [v] ∧ Rp K H v x := by
  cases h with
  | cons a r => cases r; exact ⟨_, rfl, a⟩
theorem ei_zip {ta : TA} {fa : En → R (List PD)} (h : EdA C ta fa) : EdI C (iZip C.K ta) (dItA zip2 fa) := fun H0 ext reg en σ H rs Q w =>
  h.seq rs (W := WrI C (own ext reg) H Q) w (fun _ q => q) (fun q => q) fun x v H2 e2 r2 h2 w2 => by
    unfold zip2 at w2
    split at w2
    · rename_i xs ys
      obtain ⟨v, u, rfl, hv, hu⟩ := h2.two
      cases hv with
      | lst hp hr =>
        cases hu with
        | lst hp' hr' =>
          rename_i a vs b us
          refine ⟨a, b, vs, us, rfl, SqL.of (hid_ex _ _ hp), SqL.of (hid_ex _ _ hp'), w2 _ H2 e2 fun Z H' e' hz i => ⟨fun d hd => ?_, fun hl => ?_⟩⟩
          · obtain ⟨x, y, hx, hy, rfl⟩ := zipD_get hd
            obtain ⟨v, hv, rv⟩ := hr.get hx
            obtain ⟨u, hu, ru⟩ := hr'.get hy
            have q1 : SqL C.K H' a vs := SqL.of (hid_ex _ _ (e' _ _ hp))
            have q2 : SqL C.K H' b us := SqL.of (hid_ex _ _ (e' _ _ hp'))
            refine ⟨⟨vs, us, v, u, q1, q2, hv, hu⟩, ?_⟩
            rintro z H'' ⟨T, x1, y1, rfl, nT, rfl, f1, f2⟩
            have ex : x1 = v := Option.some.inj ((f1 _ q1).symm.trans hv)
            have ey : y1 = u := Option.some.inj ((f2 _ q2).symm.trans hu)
            rw [ex, ey]
            exact ⟨Ex.new nT, Rp.newT hz nT (.cons (rv.mono e'.le) (.cons (ru.mono e'.le) .nil))⟩
          · refine ⟨vs, us, SqL.of (hid_ex _ _ (e' _ _ hp)), SqL.of (hid_ex _ _ (e' _ _ hp')), ?_⟩
            unfold zipD at hl
            rw [List.length_map, List.length_zip] at hl
            rw [hr.length, hr'.length]
            omega
    · exact w2.elim
/-- enumerate of a list -/
def enumFrom : Nat → List PD → List PD
  | _, [] => []
  | n, x :: r => .tuple [.int (n : Int), x] :: enumFrom (n + 1) r
theorem enumFrom_get : ∀ {xs : List PD} {n i : Nat} {d : PD}, (enumFrom n xs)[i]? = some d → ∃ x, xs[i]? = some x ∧ d = .tuple [.int ((n + i : Nat) : Int), x]
  | [], _, _, _, h => by simp [enumFrom] at h
  | x :: r, n, 0, d, h => ⟨x, rfl, (Option.some.inj h).symm⟩
  | x :: r, n, i + 1, d, h => by
    obtain ⟨y, h1, h2⟩ := enumFrom_get (xs := r) (n := n + 1) (i := i) h
    exact ⟨y, h1, by rw [h2, Nat.add_assoc, Nat.add_comm 1 i]⟩
theorem enumFrom_len : ∀ (xs : List PD) (n : Nat), (enumFrom n xs).length = xs.length
  | [], _ => rfl
  | x :: r, n => by simp [enumFrom, enumFrom_len r]
def enumD : List PD → R (List PD)
  | [.list xs] => .ok (enumFrom 0 xs)
  | _ => .stuck
theorem ei_enum {ta : TA} {fa : En → R (List PD)} (h : EdA C ta fa) : EdI C (iEnum C.K ta) (dItA enumD fa) := fun H0 ext reg en σ H rs Q w =>
  h.seq rs (W := WrI C (own ext reg) H Q) w (fun _ q => q) (fun q => q) fun x v H2 e2 r2 h2 w2 => by
    unfold enumD at w2
    split at w2
    · rename_i xs
      obtain ⟨v, rfl, hv⟩ := h2.one
      cases hv with
      | lst hp hr =>
        rename_i a vs
        refine ⟨a, vs, rfl, SqL.of (hid_ex _ _ hp), w2 _ H2 e2 fun Z H' e' hz i => ⟨fun d hd => ?_, fun hl => ?_⟩⟩
        · obtain ⟨x, hx, rfl⟩ := enumFrom_get hd
          obtain ⟨v, hv, rv⟩ := hr.get hx
          have q1 : SqL C.K H' a vs := SqL.of (hid_ex _ _ (e' _ _ hp))
          refine ⟨⟨vs, v, q1, hv⟩, ?_⟩
          rintro z H'' ⟨T, x1, rfl, nT, rfl, f1⟩
          have ex : x1 = v := Option.some.inj ((f1 _ q1).symm.trans hv)
          rw [ex, Nat.zero_add]
          exact ⟨Ex.new nT, Rp.newT hz nT (.cons (.int _) (.cons (rv.mono e'.le) .nil))⟩
        · refine ⟨vs, SqL.of (hid_ex _ _ (e' _ _ hp)), ?_⟩
          rw [enumFrom_len] at hl
          rw [hr.length]
          exact hl
    · exact w2.elim
/-- the signs of a text -/
def signs : PD → R (List PD)
  | .str z => .ok (z.cps.toList.map fun c => .str ⟨#[c]⟩)
  | _ => .stuck
theorem ei_str {tl : TE} {fa : En → R PD} (h : EdL C tl fa) : EdI C (iStr tl) (dIt signs fa) := fun H0 ext reg en σ H rs Q w =>
  h.seq rs (W := WrI C (own ext reg) H Q) w (fun _ q => q) (fun q => q) fun x v H2 e2 r2 h2 w2 => by
    cases x with
    | str z =>
      refine ⟨z, h2.str, w2 _ H2 e2 fun Z H' e' hz i => ⟨fun d hd => ?_, fun hl => show z.cps.size ≤ i by simpa using hl⟩⟩
      rw [List.getElem?_map] at hd
      cases e : z.cps.toList[i]? with
      | none => rw [e] at hd; cases hd
      | some c =>
        rw [e] at hd
        have hd := (Option.some.inj hd).symm
        subst hd
        rw [Array.getElem?_toList] at e
        have hi : i < z.cps.size := by
          by_cases hi : i < z.cps.size
          · exact hi
          · rw [Array.getElem?_eq_none (by omega)] at e
            cases e
        refine ⟨hi, ?_⟩
        rintro x H'' ⟨rfl, c', hc, rfl⟩
        rw [e] at hc
        cases hc
        exact ⟨Ex.refl _, .str _⟩
    | _ => exact w2.elim
end
end Dn

namespace Dn
open PySem L2

/-! ### new lists -/
def WrF (C : Cn) (Z : AS) (H : Hp) (Q : VK) : R (List PD) → Prop
  | .ok ds => ∀ p xs H2, Ex H H2 → H2 p = none → RpA C.K (hid H2 Z) xs ds → Q (.ref p) (upd H2 p (.lst xs))
  | .exc c => ∀ H2, Ex H H2 → C.E (.ref (C.cl c)) none H2
  | .stuck => False
def EdF (C : Cn) (te : TE) (f : En → R (List PD)) : Prop := ∀ (H0 : Hp) (ext : AS) (reg : Nat → AS) (en : En) (σ : L2.St) (H : Hp), RS C.K H0 ext reg en σ H → ∀ Q : VK, WrF C (own ext reg) H Q (f en) → te σ H Q
def dF (f : En → R (List PD)) : En → R PD := fun en => (f en).bind fun ds => .ok (.list ds)
section
variable {C : Cn} {ta tb te : TE} {fa fb : En → R PD}
theorem EdF.s {f : En → R (List PD)} (h : EdF C te f) : EdS C te (dF f) := fun H0 ext reg en σ H rs Q w => h H0 ext reg en σ H rs Q (by
  unfold dF at w
  generalize f en = x at w ⊢
  cases x with
  | ok ds => exact fun p xs H2 e2 hp hr => w _ _ (e2.trans (Ex.new hp)) (Rp.newL (fun a z => (rs.ex e2).there z) hp hr)
  | exc c => exact w
  | stuck => exact w)
def chk (ds : List PD) : R (List PD) := if ds.length ≤ szN then .ok ds else .stuck
theorem ef_lst {ta : TA} {fa : En → R (List PD)} (h : EdA C ta fa) : EdF C (tLst ta) (fun en => (fa en).bind chk) := fun H0 ext reg en σ H rs Q w =>
  h.seq rs (W := WrF C (own ext reg) H Q) w (fun _ q => q) (fun q => q) fun x v H2 e2 r2 h2 w2 => by
    unfold chk at w2
    split at w2
    · rename_i hl
      exact ⟨sz_of (by rw [h2.length]; exact hl), fun p hp => w2 p v H2 e2 hp h2⟩
    · exact w2.elim

/-! ### comprehensions -/
def wipeE (en : En) : List Nat → En
  | [] => en
  | v :: vs => (wipeE en vs).set v .no
def free (en : En) (vs : List Nat) : Bool := vs.all fun v => match en[v]? with
  | some sv => !isOwn sv
  | none => true
def lcL (tg : PD → En → R En) (ft : En → R Bool) (fe : En → R PD) (en : En) : List PD → R (List PD)
  | [] => .ok []
  | x :: r => (tg x en).bind fun e => (ft e).bind fun b => match b with
    | true => (fe e).bind fun y => (lcL tg ft fe en r).bind fun ys => .ok (y :: ys)
    | false => lcL tg ft fe en r
def dLc (fi : En → R (List PD)) (tg : PD → En → R En) (ft : En → R Bool) (fe : En → R PD) (vs : List Nat) : En → R (List PD) := fun en => (fi en).bind fun ds =>
  if free en vs = true then ((lcL tg ft fe (wipeE en vs) ds).noexc).bind chk else .stuck
theorem wipeE_get (en : En) : ∀ (vs : List Nat) (j : Nat), (wipeE en vs)[j]? = if j ∈ vs then (en[j]?).map (fun _ => SV.no) else en[j]?
  | [], j => by simp [wipeE]
  | v :: vs, j => by
    unfold wipeE
    rw [List.getElem?_set, wipeE_get en vs]
    have hl : ∀ ws : List Nat, (wipeE en ws).length = en.length := fun ws => by
      induction ws with
      | nil => rfl
      | cons a b ih => unfold wipeE; rw [List.length_set, ih]
    by_cases h : v = j
    · subst h
      rw [if_pos rfl, if_pos List.mem_cons_self, hl]
      by_cases hv : v < en.length
      · rw [if_pos hv, List.getElem?_eq_getElem hv]; rfl
      · rw [if_neg hv, List.getElem?_eq_none (by omega)]; rfl
    · rw [if_neg h]
      by_cases hm : j ∈ vs
      · rw [if_pos hm, if_pos (List.mem_cons_of_mem _ hm)]
      · rw [if_neg hm, if_neg fun z => (List.mem_cons.mp z).elim (fun e => h e.symm) hm]
theorem wipe_get (σ : L2.St) : ∀ (vs : List Nat) (j : Nat), (wipe σ vs)[j]? = if j ∈ vs then (σ[j]?).map (fun _ => none) else σ[j]?
  | [], j => by simp [wipe]
  | v :: vs, j => by
    unfold wipe
    rw [List.getElem?_set, wipe_get σ vs, wipe_length]
    by_cases h : v = j
    · subst h
      rw [if_pos rfl, if_pos List.mem_cons_self]
      by_cases hv : v < σ.length
      · rw [if_pos hv, List.getElem?_eq_getElem hv]; rfl
      · rw [if_neg hv, List.getElem?_eq_none (by omega)]; rfl
    · rw [if_neg h]
      by_cases hm : j ∈ vs
      · rw [if_pos hm, if_pos (List.mem_cons_of_mem _ hm)]
      · rw [if_neg hm, if_neg fun z => (List.mem_cons.mp z).elim (fun e => h e.symm) hm]
theorem RS.wipes {K : PySem.W.Frag} {H0 H : Hp} {ext : AS} {reg : Nat → AS} {en : En} {σ : L2.St} (r : RS K H0 ext reg en σ H) : ∀ (vs : List Nat), free en vs = true → RS K H0 ext reg (wipeE en vs) (wipe σ vs) H
  | [], _ => r
  | v :: vs, h => by
    have h' : (match en[v]? with | some sv => !isOwn sv | none => true) = true ∧ free en vs = true := by
      unfold free at h ⊢
      rw [List.all_cons, Bool.and_eq_true] at h
      exact h
    refine (r.wipes vs h'.2).wipeK v fun sv e => ?_
    rw [wipeE_get] at e
    cases q : en[v]? with
    | none => rw [q] at e; split at e <;> cases e
    | some s =>
      have h1 := h'.1
      rw [q] at e h1
      split at e
      · cases e; rfl
      · cases e
        simpa using h1
theorem ef_lc {wi : TI} {g : TG} {tt : TT} {te : TE} {vs ts : List Nat} {fi : En → R (List PD)} {tg : PD → En → R En} {ft : En → R Bool} {fe : En → R PD}
    (hi : EdI C wi fi) (hg : EdK C.n ts g tg) (ht : EdT C.n tt ft) (he : EdS C.n te fe) (hts : ∀ i ∈ ts, i ∈ vs) : EdF C (tLc wi g tt te vs) (dLc fi tg ft fe vs) := fun H0 ext reg en σ H rs Q w => by
  refine hi H0 ext reg en σ H rs _ ?_
  unfold dLc at w
  cases e : fi en with
  | exc c => rw [e] at w; exact w
  | stuck => rw [e] at w; exact w.elim
  | ok ds =>
    rw [e] at w
    simp only [R.bind_ok] at w
    split at w
    case isFalse => exact w.elim
    rename_i hfree
    cases el : lcL tg ft fe (wipeE en vs) ds with
    | exc c => rw [el] at w; exact w.elim
    | stuck => rw [el] at w; exact w.elim
    | ok all =>
      rw [el] at w
      simp only [R.noexc_ok, R.bind_ok] at w
      unfold chk at w
      split at w
      case isFalse => exact w.elim
      rename_i hlen
      intro J H1 e1 wk Dl hD
      have r1 := rs.ex e1
      -- the heap without the new list
      let del : Hp → Hp := fun H' a => if a = Dl then none else H' a
      have delx : ∀ (H' H'' : Hp), Ex H' H'' → Ex (del H') (del H'') := fun H' H'' q a o h => by
        show (if a = Dl then none else H'' a) = some o
        have h' : (if a = Dl then none else H' a) = some o := h
        split at h'
        · cases h'
        · rename_i hn
          rw [if_neg hn]
          exact q a o h'
      have dell : ∀ H' : Hp, Ex (del H') H' := fun H' a o h => by
        have h' : (if a = Dl then none else H' a) = some o := h
        split at h'
        · cases h'
        · exact h'
      have delu : ∀ (H' : Hp) (o : HO), del (upd H' Dl o) = del H' := fun H' o => by
        funext a
        show (if a = Dl then none else upd H' Dl o a) = if a = Dl then none else H' a
        by_cases ha : a = Dl
        · rw [if_pos ha, if_pos ha]
        · rw [if_neg ha, if_neg ha, upd_ne ha]
      have udel : ∀ (H' : Hp) (o : HO), H' Dl = some o → upd (del H') Dl o = H' := fun H' o h => by
        funext a
        by_cases ha : a = Dl
        · rw [ha, upd_same, h]
        · rw [upd_ne ha]
          show (if a = Dl then none else H' a) = H' a
          rw [if_neg ha]
      have del1 : Ex H1 (del (upd H1 Dl (.lst []))) := fun a o h => by
        rw [delu]
        show (if a = Dl then none else H1 a) = some o
        rw [if_neg fun z => by rw [z, hD] at h; cases h]
        exact h
      -- owned places, and the new list
      let Z := own ext reg
      let Z' : AS := fun a => Z a ∨ a = Dl
      have zD : ∀ H' : Hp, hid H' Z' = hid (del H') Z := fun H' => by
        funext a
        by_cases ha : a = Dl
        · rw [hid_no (show Z' a from .inr ha)]
          by_cases hz : Z a
          · rw [hid_no hz]
          · rw [hid_at hz]
            show none = if a = Dl then none else H' a
            rw [if_pos ha]
        · by_cases hz : Z a
          · rw [hid_no (show Z' a from .inl hz), hid_no hz]
          · rw [hid_at (fun z : Z' a => z.elim hz ha), hid_at hz]
            show H' a = if a = Dl then none else H' a
            rw [if_neg ha]
      let I : Nat → Nat → Hp → Prop := fun i m H' => m = ds.length - i ∧ i ≤ ds.length ∧ Ex H1 (del H') ∧ ∃ xs acc rest, H' Dl = some (.lst xs) ∧ RpA C.K (hid H' Z') xs acc ∧ lcL tg ft fe (wipeE en vs) (ds.drop i) = .ok rest ∧ acc ++ rest = all
      refine ⟨I, ⟨ds.length, by omega, Nat.zero_le _, del1, [], [], all, upd_same, .nil, by rw [List.drop_zero]; exact el, rfl⟩, ?_⟩
      rintro i m H' ⟨rfl, hi', eH, xs, acc, rest, hDl, hacc, hrest, hall⟩
      -- the state within the block: the new list is a stranger's
      have eH' : Ex H1 H' := eH.trans (dell H')
      have rB : RS C.K (hid H' fun a => (∃ i, reg i a)) (fun a => ext a ∨ a = Dl) reg (wipeE en vs) (wipe σ vs) H' := by
        have r2 := (r1.ex eH).wipes vs hfree
        refine ⟨hid_ex, ?_, ?_, r2.dj, r2.ro, r2.len, ?_⟩
        · rintro a (h | h)
          · obtain ⟨o, q⟩ := r2.exd a h
            refine ⟨o, ?_⟩
            rw [hid_at fun ⟨i, q2⟩ => r2.noext q2 h]
            exact dell H' _ _ (r2.le a o q)
          · refine ⟨.lst xs, ?_⟩
            rw [h, hid_at]
            · exact hDl
            · rintro ⟨i, q2⟩
              obtain ⟨o, q3⟩ := (r2.rg i _ q2).2
              have q4 : (if Dl = Dl then none else H' Dl) = some o := q3
              rw [if_pos rfl] at q4
              cases q4
        · exact fun j a q => ⟨hid_no ⟨j, q⟩, let ⟨o, q2⟩ := (r2.rg j a q).2; ⟨o, dell H' _ _ q2⟩⟩
        · intro j sv q
          obtain ⟨v, h1, h2⟩ := r2.sl j sv q
          refine ⟨v, h1, ?_⟩
          have same : hid H' (own (fun a => ext a ∨ a = Dl) reg) = hid (del H') (own ext reg) := by
            rw [← zD H']
            congr 1
            funext a
            apply propext
            constructor
            · rintro ((h | h) | h)
              · exact .inl (.inl h)
              · exact .inr h
              · exact .inl (.inr h)
            · rintro ((h | h) | h)
              · exact .inl (.inl h)
              · exact .inr h
              · exact .inl (.inr h)
          rw [same]
          exact h2.mono (Ex.refl _).le (fun _ _ q => q) fun p o _ q => dell H' p o q
      have ownZ : ∀ a, own (fun a => ext a ∨ a = Dl) reg a ↔ Z' a := fun a => by
        constructor
        · rintro ((h | h) | h)
          · exact .inl (.inl h)
          · exact .inr h
          · exact .inl (.inr h)
        · rintro ((h | h) | h)
          · exact .inl (.inl h)
          · exact .inr h
          · exact .inl (.inr h)
      have ownEq : own (fun a => ext a ∨ a = Dl) reg = Z' := funext fun a => propext (ownZ a)
      have wki := wk Z' H' (by
        rw [zD H']
        exact eH.hid) (fun a z => rB.there ((ownZ a).mpr z)) i
      by_cases hlt : i < ds.length
      · refine .inr ?_
        have hd : ds[i]? = some ds[i] := List.getElem?_eq_getElem hlt
        obtain ⟨go, yl⟩ := wki.1 _ hd
        refine ⟨go, fun H'' => I (i + 1) (ds.length - (i + 1)) H'', fun H'' q => ⟨_, by omega, q⟩, fun x H2 hy => ?_⟩
        obtain ⟨e2, hx⟩ := yl x H2 hy
        rw [List.drop_eq_getElem_cons hlt] at hrest
        unfold lcL at hrest
        have rB2 := rB.ex e2
        refine hg _ _ reg _ _ H2 rB2 x ds[i] (by rw [ownEq]; exact hx) _ ?_
        cases etg : tg ds[i] (wipeE en vs) with
        | exc c => rw [etg] at hrest; cases hrest
        | stuck => rw [etg] at hrest; cases hrest
        | ok en2 =>
          rw [etg] at hrest
          simp only [R.bind_ok] at hrest
          intro reg' σ' kp rB3
          -- what is owned is the same
          have ownS : own (fun a => ext a ∨ a = Dl) reg' = Z' := by
            rw [← ownEq]
            funext a
            apply propext
            refine ⟨kp.own _ a, ?_⟩
            rintro (h | ⟨j, h⟩)
            · exact .inl h
            · refine .inr ⟨j, kp.r2 j a h fun hj => ?_⟩
              obtain ⟨sv, h1, h2⟩ := rB.ro j a h
              rw [wipeE_get, if_pos (hts j hj)] at h1
              cases q : en[j]? with
              | none => rw [q] at h1; cases h1
              | some s =>
                rw [q] at h1
                cases h1
                cases h2
          refine ⟨?_, ?_⟩
          · apply List.ext_getElem?
            intro j
            rw [wipe_get, wipe_get]
            by_cases hj : j ∈ vs
            · rw [if_pos hj, if_pos hj]
              by_cases hl : j < σ.length
              · have : j < σ'.length := by rw [kp.s1, wipe_length]; exact hl
                rw [List.getElem?_eq_getElem hl, List.getElem?_eq_getElem this]
                rfl
              · rw [List.getElem?_eq_none (l := σ) (by omega), List.getElem?_eq_none (l := σ') (by rw [kp.s1, wipe_length]; omega)]
            · rw [if_neg hj, if_neg hj, kp.s2 j fun z => hj (hts j z), wipe_get, if_neg hj]
          · refine ht _ _ reg' en2 σ' H2 rB3 _ ?_
            cases eft : ft en2 with
            | exc c => rw [eft] at hrest; cases hrest
            | stuck => rw [eft] at hrest; cases hrest
            | ok b =>
              rw [eft] at hrest
              simp only [R.bind_ok] at hrest
              intro H3 e3
              have rB4 := rB3.ex e3
              have eD3 : Ex H1 (del H3) := eH.trans (delx _ _ (e2.trans e3))
              cases b with
              | false =>
                show I (i + 1) _ H3
                refine ⟨rfl, hlt, eD3, xs, acc, rest, e3 _ _ (e2 _ _ hDl), hacc.mono (e2.trans e3).hid.le, hrest, hall⟩
              | true =>
                show te σ' H3 _
                refine he _ _ reg' en2 σ' H3 rB4 _ ?_
                dsimp only at hrest
                cases efe : fe en2 with
                | exc c => rw [efe] at hrest; cases hrest
                | stuck => rw [efe] at hrest; cases hrest
                | ok y =>
                  rw [efe] at hrest
                  simp only [R.bind_ok] at hrest
                  cases er : lcL tg ft fe (wipeE en vs) (ds.drop (i + 1)) with
                  | exc c => rw [er] at hrest; cases hrest
                  | stuck => rw [er] at hrest; cases hrest
                  | ok ys =>
                    rw [er] at hrest
                    simp only [R.bind_ok] at hrest
                    have hrest := R.ok.inj hrest
                    subst hrest
                    intro v H4 e4 hv
                    have eD4 : H4 Dl = some (.lst xs) := e4 _ _ (e3 _ _ (e2 _ _ hDl))
                    refine ⟨xs, eD4, sz_lt ?_, rfl, hlt, ?_, xs ++ [v], acc ++ [y], ys, upd_same, ?_, er, by rw [← hall, List.append_assoc]; rfl⟩
                    · rw [hacc.length]
                      have : acc.length ≤ all.length := by rw [← hall, List.length_append]; omega
                      omega
                    · rw [delu]
                      exact eD3.trans (delx _ _ e4)
                    · rw [hid_upd (show Z' Dl from .inr rfl)]
                      refine RpA.app (hacc.mono ((e2.trans e3).trans e4).hid.le) (.cons ?_ .nil)
                      have hv' : Rp C.K (hid H4 (own (fun a => ext a ∨ a = Dl) reg')) v y := hv
                      rw [ownS] at hv'
                      exact hv'
      · refine .inl ⟨wki.2 (by omega), ?_⟩
        have ei : i = ds.length := by omega
        rw [ei, List.drop_length] at hrest
        have hr0 : rest = [] := (R.ok.inj hrest).symm
        subst hr0
        rw [List.append_nil] at hall
        subst hall
        have := w Dl xs (del H') (e1.trans eH) (by show (if Dl = Dl then none else H' Dl) = none; rw [if_pos rfl]) (by
          have h := hacc
          rw [zD H'] at h
          exact h)
        rw [udel H' _ hDl] at this
        exact this
end
end Dn

namespace Dn
open PySem L2

/-! ### statements -/
inductive Fl where
  | nx (e : En)
  | rt (d : PD)
  | bk (e : En)
  | ct (e : En)
def WS (C : Cn) (H0 : Hp) (ext : AS) (D : Ends) : R Fl → Prop
  | .ok (.nx e) => ∀ reg σ H, RS C.K H0 ext reg e σ H → D.nx σ H
  | .ok (.rt d) => ∀ v H, Ex H0 H → Rp C.K (hid H ext) v d → D.rt v H
  | .ok (.bk e) => ∀ reg σ H, RS C.K H0 ext reg e σ H → D.bk σ H
  | .ok (.ct e) => ∀ reg σ H, RS C.K H0 ext reg e σ H → D.ct σ H
  | .exc c => ∀ H, Ex H0 H → C.E (.ref (C.cl c)) none H
  | .stuck => False
def Es (C : Cn) (ts : TS) (f : En → R Fl) : Prop := ∀ (H0 : Hp) (ext : AS) (reg : Nat → AS) (en : En) (σ : L2.St) (H : Hp), RS C.K H0 ext reg en σ H → ∀ D : Ends, WS C H0 ext D (f en) → ts D σ H
section
variable {C : Cn} {ta tb te : TE} {fa fb fe : En → R PD} {t u : TS} {f g : En → R Fl}
theorem WS.exc {H0 H : Hp} {ext : AS} {D : Ends} {c : Str} (w : WS C H0 ext D (.exc c)) (e : Ex H0 H) : ∀ H2, Ex H H2 → C.E (.ref (C.cl c)) none H2 := fun H2 e2 => w H2 (e.trans e2)
def sNil : En → R Fl := fun en => .ok (.nx en)
theorem es_nil : Es C tNext sNil := fun H0 ext reg en σ H rs D w => w reg σ H rs
theorem es_pass : Es C tNext sNil := es_nil
theorem es_cont : Es C tCont (fun en => .ok (.ct en)) := fun H0 ext reg en σ H rs D w => w reg σ H rs
theorem es_brk : Es C tBreak (fun en => .ok (.bk en)) := fun H0 ext reg en σ H rs D w => w reg σ H rs
def sSeq (f g : En → R Fl) : En → R Fl := fun en => (f en).bind fun x => match x with
  | .nx e => g e
  | y => .ok y
theorem es_seq (h : Es C t f) (h' : Es C u g) : Es C (tSeq t u) (sSeq f g) := fun H0 ext reg en σ H rs D w => h H0 ext reg en σ H rs _ (by
  unfold sSeq at w
  generalize f en = x at w ⊢
  cases x with
  | ok fl =>
    cases fl with
    | nx e => exact fun reg' σ' H' r' => h' H0 ext reg' e σ' H' r' D w
    | rt d => exact w
    | bk e => exact w
    | ct e => exact w
  | exc c => exact w
  | stuck => exact w)
/-- x = e -/
def sAsg (i : Nat) (fa : En → R PD) : En → R Fl := fun en => (fa en).bind fun d => .ok (.nx (en.set i (.sh d)))
theorem es_asg {i : Nat} (h : EdS C te fa) : Es C (tAsg te (gName i)) (sAsg i fa) := fun H0 ext reg en σ H rs D w =>
  h.seq rs (W := WS C H0 ext D) w (fun _ q => WS.exc q rs.le) (fun q => q) fun d v H2 e2 r2 h2 w2 => w2 _ _ _ (r2.set h2)
/-- targets of other forms -/
def sAsgG (g : PD → En → R En) (fa : En → R PD) : En → R Fl := fun en => (fa en).bind fun d => (g d en).noexc.bind fun e => .ok (.nx e)
theorem es_asgG {ts : List Nat} {g : TG} {gf : PD → En → R En} (h : EdS C te fa) (hg : EdK C ts g gf) : Es C (tAsg te g) (sAsgG gf fa) := fun H0 ext reg en σ H rs D w =>
  h.seq rs (W := WS C H0 ext D) w (fun _ q => WS.exc q rs.le) (fun q => q) fun d v H2 e2 r2 h2 w2 => hg H0 ext reg en σ H2 r2 v d h2 _ (by
    generalize gf d en = x at w2 ⊢
    cases x with
    | ok e => exact fun reg' σ' _ r' => w2 reg' σ' H2 r'
    | exc c => exact w2.elim
    | stuck => exact w2.elim)
/-- x = a new list, which the slot owns -/
def sAsgF (i : Nat) (fa : En → R (List PD)) : En → R Fl := fun en => (fa en).bind fun ds => if i < en.length then .ok (.nx (en.set i (.ol ds))) else .stuck
theorem es_asgF {i : Nat} {fa : En → R (List PD)} (h : EdF C te fa) : Es C (tAsg te (gName i)) (sAsgF i fa) := fun H0 ext reg en σ H rs D w => h H0 ext reg en σ H rs _ (by
  unfold sAsgF at w
  generalize fa en = x at w ⊢
  cases x with
  | ok ds =>
    intro p xs H2 e2 hp hr
    simp only [R.bind_ok] at w
    split at w
    · rename_i hi
      exact w _ _ _ ((rs.ex e2).new hi rfl hp ⟨p, xs, rfl, rfl, upd_same, hr⟩)
    · exact w.elim
  | exc c => exact WS.exc w rs.le
  | stuck => exact w.elim)
/-- a, b = x, y -/
def sPar (i j : Nat) (fa : En → R (List PD)) : En → R Fl := fun en => (fa en).bind fun ds => match ds with
  | [x, y] => .ok (.nx ((en.set i (.sh x)).set j (.sh y)))
  | _ => .stuck
theorem es_par {i j : Nat} {ta : TA} {fa : En → R (List PD)} (h : EdA C ta fa) : Es C (tPar i j ta) (sPar i j fa) := fun H0 ext reg en σ H rs D w =>
  h.seq rs (W := WS C H0 ext D) w (fun _ q => WS.exc q rs.le) (fun q => q) fun ds vs H2 e2 r2 h2 w2 => by
    match ds, w2 with
    | [x, y], w2 =>
      obtain ⟨v, u, rfl, hv, hu⟩ := h2.two
      have r3 := r2.set (i := i) hv
      exact ⟨v, u, rfl, w2 _ _ _ (r3.set (hu.mono ((Ex.refl H2).hidLess fun a z => own_drp z).le))⟩
    | [], w2 => exact w2.elim
    | [_], w2 => exact w2.elim
    | _ :: _ :: _ :: _, w2 => exact w2.elim
/-- return e -/
def sRet (fa : En → R PD) : En → R Fl := fun en => (fa en).bind fun d => .ok (.rt d)
theorem es_ret (h : EdL C te fa) : Es C (tRet te) (sRet fa) := fun H0 ext reg en σ H rs D w =>
  h.seq rs (W := WS C H0 ext D) w (fun _ q => WS.exc q rs.le) (fun q => q) fun d v H2 e2 r2 h2 w2 => w2 v H2 r2.le (h2.rp (hid_less fun a z => .inl z))
theorem es_retN : Es C tRetN (fun _ => .ok (.rt .none)) := fun H0 ext reg en σ H rs D w => w .non H rs.le .non
/-- an expression alone -/
def sDrop (fa : En → R PD) : En → R Fl := fun en => (fa en).bind fun _ => .ok (.nx en)
theorem es_drop (h : EdL C te fa) : Es C (tDrop te) (sDrop fa) := fun H0 ext reg en σ H rs D w =>
  h.seq rs (W := WS C H0 ext D) w (fun _ q => WS.exc q rs.le) (fun q => q) fun d v H2 e2 r2 h2 w2 => w2 _ _ _ r2
def sIf (ft : En → R Bool) (f g : En → R Fl) : En → R Fl := fun en => (ft en).bind fun b => match b with
  | true => f en
  | false => g en
theorem es_if {tt : TT} {ft : En → R Bool} (h : EdT C tt ft) (h1 : Es C t f) (h2 : Es C u g) : Es C (tIfS tt t u) (sIf ft f g) := fun H0 ext reg en σ H rs D w =>
  h.seq rs (W := WS C H0 ext D) w (fun _ q => WS.exc q rs.le) (fun q => q) fun b H2 e2 r2 w2 => by
    cases b with
    | true => exact h1 H0 ext reg en σ H2 r2 D w2
    | false => exact h2 H0 ext reg en σ H2 r2 D w2
/-- raise -/
def sRaise (c : Str) : En → R Fl := fun _ => .exc c
theorem es_raise (c : Str) : Es C (fun _ σ H => (fun (_ : L2.St) (H : Hp) (Q : XK) => Q (.ref (C.cl c)) none H) σ H fun cls d H' => (fun cls d (_ : L2.St) H => C.E cls d H) cls d σ H') (sRaise c) := fun H0 ext reg en σ H rs D w => w H rs.le
/-- xs.append(e), the slot's own list -/
def sApp (i : Nat) (fa : En → R PD) : En → R Fl := fun en => match en[i]? with
  | some (.ol ds) => (fa en).bind fun d => if ds.length + 1 ≤ szN then .ok (.nx (en.set i (.ol (ds ++ [d])))) else .stuck
  | _ => .stuck
theorem RS.at {K : PySem.W.Frag} {H0 H : Hp} {ext : AS} {reg : Nat → AS} {en : En} {σ : L2.St} {i : Nat} {ds : List PD} (r : RS K H0 ext reg en σ H) (h : en[i]? = some (.ol ds)) : ∃ p xs, σ[i]? = some (some (.ref p)) ∧ reg i p ∧ H p = some (.lst xs) ∧ RpA K (hid H (own ext reg)) xs ds := by
  obtain ⟨v, h1, p, xs, rfl, h2, h3, h4⟩ := r.sl i _ h
  exact ⟨p, xs, h1, h2, h3, h4⟩
theorem es_app {i : Nat} (h : EdS C te fa) : Es C (tDrop (tBM C.K "list" rAppend (tVar i) (tCons te tNil))) (sApp i fa) := fun H0 ext reg en σ H rs D w => by
  unfold sApp at w
  cases e : en[i]? with
  | none => rw [e] at w; exact w.elim
  | some sv =>
    rw [e] at w
    cases sv with
    | ol ds =>
      obtain ⟨p, xs, h1, h2, h3, h4⟩ := rs.at e
      refine ⟨.ref p, h1, .inl ⟨rfl, xs, SqL.of h3⟩, h.seq rs (W := WS C H0 ext D) w (fun _ q => WS.exc q rs.le) (fun q => q) fun d v H2 e2 r2 h5 w2 => ?_⟩
      split at w2
      · rename_i hl
        refine ⟨p, xs, v, rfl, rfl, e2 _ _ h3, sz_lt (by rw [h4.length]; omega), w2 _ _ _ (r2.wr (sv := .ol (ds ++ [d])) rfl h2 h1 ?_)⟩
        exact ⟨p, xs ++ [v], rfl, h2, upd_same, (h4.mono e2.hid.le).app (.cons h5 .nil)⟩
      · exact w2.elim
    | _ => exact w.elim
/-- xs.extend(ys) -/
def sExt (i : Nat) (fa : En → R PD) : En → R Fl := fun en => match en[i]? with
  | some (.ol ds) => (fa en).bind fun d => match d with
    | .list es => if ds.length + es.length ≤ szN then .ok (.nx (en.set i (.ol (ds ++ es)))) else .stuck
    | _ => .stuck
  | _ => .stuck
theorem es_ext {i : Nat} (h : EdS C te fa) : Es C (tDrop (tBM C.K "list" rExtend (tVar i) (tCons te tNil))) (sExt i fa) := fun H0 ext reg en σ H rs D w => by
  unfold sExt at w
  cases e : en[i]? with
  | none => rw [e] at w; exact w.elim
  | some sv =>
    rw [e] at w
    cases sv with
    | ol ds =>
      obtain ⟨p, xs, h1, h2, h3, h4⟩ := rs.at e
      refine ⟨.ref p, h1, .inl ⟨rfl, xs, SqL.of h3⟩, h.seq rs (W := WS C H0 ext D) w (fun _ q => WS.exc q rs.le) (fun q => q) fun d v H2 e2 r2 h5 w2 => ?_⟩
      cases d with
      | list es =>
        dsimp only at w2
        split at w2
        · rename_i hl
          cases h5 with
          | lst hb hr =>
            rename_i b ys
            refine ⟨p, b, xs, ys, rfl, rfl, e2 _ _ h3, hid_ex _ _ hb, sz_of (by rw [h4.length, hr.length]; omega), w2 _ _ _ (r2.wr (sv := .ol (ds ++ es)) rfl h2 h1 ?_)⟩
            exact ⟨p, xs ++ ys, rfl, h2, upd_same, (h4.mono e2.hid.le).app hr⟩
        · exact w2.elim
      | _ => exact w2.elim
    | _ => exact w.elim
/-- what the slot owned is shared from here on -/
def sShare (i : Nat) : En → En := fun en => match en[i]? with
  | some (.ol ds) => en.set i (.sh (.list ds))
  | some (.od es) => en.set i (.sh (.dict es))
  | _ => en
theorem es_share (i : Nat) (h : Es C t f) : Es C t (fun en => f (sShare i en)) := fun H0 ext reg en σ H rs D w => by
  dsimp only at w
  unfold sShare at w
  cases e : en[i]? with
  | none => rw [e] at w; exact h H0 ext reg en σ H rs D w
  | some sv =>
    rw [e] at w
    cases sv with
    | ol ds => exact h H0 ext _ _ σ H (rs.share e) D w
    | od es => exact h H0 ext _ _ σ H (rs.shareD e) D w
    | no => exact h H0 ext reg en σ H rs D w
    | sh d => exact h H0 ext reg en σ H rs D w
    | rl d => exact h H0 ext reg en σ H rs D w
theorem es_nox (h : Es C.n t f) : Es C t (fun en => (f en).noexc) := fun H0 ext reg en σ H rs D w => h H0 ext reg en σ H rs D (by
  dsimp only at w
  generalize f en = x at w ⊢
  cases x with
  | ok fl => cases fl <;> exact w
  | exc c => exact w.elim
  | stuck => exact w)

/-! ### loops -/
def loopF (tg : PD → En → R En) (body : En → R Fl) : List PD → En → R Fl
  | [], en => .ok (.nx en)
  | x :: r, en => (tg x en).noexc.bind fun e => (body e).bind fun fl => match fl with
    | .nx e2 => loopF tg body r e2
    | .ct e2 => loopF tg body r e2
    | .bk e2 => .ok (.nx e2)
    | .rt d => .ok (.rt d)
def sFor (fi : En → R (List PD)) (tg : PD → En → R En) (body : En → R Fl) : En → R Fl := fun en => (fi en).bind fun ds => loopF tg body ds en
theorem es_for {wi : TI} {g : TG} {tb : TS} {ts : List Nat} {fi : En → R (List PD)} {tg : PD → En → R En} {body : En → R Fl} (hi : EdI C wi fi) (hg : EdK C ts g tg) (hb : Es C tb body) : Es C (tFor wi g tb) (sFor fi tg body) := fun H0 ext reg en σ H rs D w => by
  refine hi H0 ext reg en σ H rs _ ?_
  unfold sFor at w
  cases e : fi en with
  | exc c => rw [e] at w; exact WS.exc w rs.le
  | stuck => rw [e] at w; exact w.elim
  | ok ds =>
    rw [e] at w
    simp only [R.bind_ok] at w
    intro J H1 e1 wk
    have r1 := rs.ex e1
    -- the ground of the loop
    have rL := r1.lift
    have gL := r1.lift_le
    generalize hG : hid H1 (fun a => ∃ i, reg i a) = G at rL gL
    refine ⟨fun i m σ' H' => m = ds.length - i ∧ i ≤ ds.length ∧ ∃ reg' en', RS C.K G ext reg' en' σ' H' ∧ WS C H0 ext D (loopF tg body (ds.drop i) en'), ⟨ds.length, by omega, Nat.zero_le _, reg, en, rL, by rw [List.drop_zero]; exact w⟩, ?_⟩
    rintro i m σ' H' ⟨rfl, hi', reg', en', r', w'⟩
    have stands : Ex (hid H1 (own ext reg)) (hid H' (own ext reg')) := fun a o h => by
      obtain ⟨z, h⟩ := hid_some h
      have hg0 : G a = some o := by
        rw [← hG, hid_at fun q => z (.inr q)]
        exact h
      rw [hid_at fun q => by
        rcases q with q | ⟨j, q⟩
        · exact z (.inl q)
        · rw [(r'.rg j a q).1] at hg0
          cases hg0]
      exact r'.le a o hg0
    have wki := wk (own ext reg') H' stands (fun a z => r'.there z) i
    by_cases hlt : i < ds.length
    · refine .inr ?_
      have hd : ds[i]? = some ds[i] := List.getElem?_eq_getElem hlt
      obtain ⟨go, yl⟩ := wki.1 _ hd
      refine ⟨go, fun σ2 H2 => ∃ reg2 en2, RS C.K G ext reg2 en2 σ2 H2 ∧ WS C H0 ext D (loopF tg body (ds.drop (i + 1)) en2), fun σ2 H2 ⟨reg2, en2, a, b⟩ => ⟨_, by omega, rfl, hlt, reg2, en2, a, b⟩, fun x H2 hy => ?_⟩
      obtain ⟨e2, hx⟩ := yl x H2 hy
      rw [List.drop_eq_getElem_cons hlt] at w'
      unfold loopF at w'
      refine hg G ext reg' en' σ' H2 (r'.ex e2) x ds[i] hx _ ?_
      cases etg : tg ds[i] en' with
      | exc c => rw [etg] at w'; exact w'.elim
      | stuck => rw [etg] at w'; exact w'.elim
      | ok en2 =>
        rw [etg] at w'
        simp only [R.noexc_ok, R.bind_ok] at w'
        intro reg2 σ2 _ r2
        refine hb G ext reg2 en2 σ2 H2 r2 _ ?_
        have ext0 : ∀ a, ext a → ∃ o, H0 a = some o := rs.exd
        cases eb : body en2 with
        | exc c => rw [eb] at w'; exact fun H3 q => w' H3 (gL.trans q)
        | stuck => rw [eb] at w'; exact w'.elim
        | ok fl =>
          rw [eb] at w'
          simp only [R.bind_ok] at w'
          cases fl with
          | nx e3 => exact fun reg3 σ3 H3 r3 => ⟨reg3, e3, r3, w'⟩
          | ct e3 => exact fun reg3 σ3 H3 r3 => ⟨reg3, e3, r3, w'⟩
          | bk e3 => exact fun reg3 σ3 H3 r3 => w' reg3 σ3 H3 (r3.ground gL ext0)
          | rt d => exact fun v H3 q h3 => w' v H3 (gL.trans q) h3
    · refine .inl ⟨wki.2 (by omega), ?_⟩
      have ei : i = ds.length := by omega
      rw [ei, List.drop_length] at w'
      exact w' reg' σ' H' (r'.ground gL rs.exd)
def loopW (ft : En → R Bool) (body : En → R Fl) : Nat → En → R Fl
  | 0, _ => .stuck
  | n + 1, en => (ft en).bind fun b => match b with
    | false => .ok (.nx en)
    | true => (body en).bind fun fl => match fl with
      | .nx e2 => loopW ft body n e2
      | .ct e2 => loopW ft body n e2
      | .bk e2 => .ok (.nx e2)
      | .rt d => .ok (.rt d)
def sWhile (fuel : Nat) (ft : En → R Bool) (body : En → R Fl) : En → R Fl := loopW ft body fuel
theorem es_while {tt : TT} {tb : TS} {ft : En → R Bool} {body : En → R Fl} (fuel : Nat) (ht : EdT C tt ft) (hb : Es C tb body) : Es C (tWhile tt tb) (sWhile fuel ft body) := fun H0 ext reg en σ H rs D w => by
  refine ⟨fun m σ' H' => ∃ reg' en', RS C.K H0 ext reg' en' σ' H' ∧ WS C H0 ext D (loopW ft body m en'), ⟨fuel, reg, en, rs, w⟩, ?_⟩
  rintro m σ' H' ⟨reg', en', r', w'⟩
  cases m with
  | zero => exact w'.elim
  | succ n =>
    unfold loopW at w'
    refine ht.seq r' (W := WS C H0 ext D) w' (fun _ q => WS.exc q r'.le) (fun q => q) fun b H2 e2 r2 w2 => ?_
    cases b with
    | false => exact w2 reg' σ' H2 r2
    | true =>
      refine ⟨fun σ3 H3 => ∃ reg3 en3, RS C.K H0 ext reg3 en3 σ3 H3 ∧ WS C H0 ext D (loopW ft body n en3), fun σ3 H3 q => ⟨n, Nat.lt_succ_self n, q⟩, hb H0 ext reg' en' σ' H2 r2 _ ?_⟩
      dsimp only at w2
      cases eb : body en' with
      | exc c => rw [eb] at w2; exact w2
      | stuck => rw [eb] at w2; exact w2.elim
      | ok fl =>
        rw [eb] at w2
        simp only [R.bind_ok] at w2
        cases fl with
        | nx e3 => exact fun reg3 σ3 H3 r3 => ⟨reg3, e3, r3, w2⟩
        | ct e3 => exact fun reg3 σ3 H3 r3 => ⟨reg3, e3, r3, w2⟩
        | bk e3 => exact fun reg3 σ3 H3 r3 => w2 reg3 σ3 H3 r3
        | rt d => exact fun v H3 q h3 => w2 v H3 q h3
end

/-! ### a def -/
def runB (N : Nat) (f : En → R Fl) (ds : List PD) : R PD := (f (ds.map SV.sh ++ List.replicate (N - ds.length) SV.no)).bind fun fl => match fl with
  | .nx _ => .ok .none
  | .rt d => .ok d
  | _ => .stuck
theorem RS.start {K : PySem.W.Frag} {H : Hp} {ext : AS} {vs : List V} {ds : List PD} {N : List Str} (hx : ∀ a, ext a → ∃ o, H a = some o) (h : RpA K (hid H ext) vs ds) : RS K H ext (fun _ _ => False) (ds.map SV.sh ++ List.replicate (N.length - ds.length) SV.no) (L2.start N vs) H := by
  have ho : own ext (fun _ _ => False) = ext := by
    funext a
    apply propext
    constructor
    · rintro (h | ⟨_, h⟩)
      · exact h
      · exact h.elim
    · exact fun h => .inl h
  refine ⟨Ex.refl H, hx, fun _ _ h => h.elim, fun _ _ _ h => h.elim, fun _ _ h => h.elim, ?_, fun i sv e => ?_⟩
  · unfold L2.start
    rw [List.length_append, List.length_append, List.length_map, List.length_map, List.length_replicate, List.length_replicate, h.length]
  · rw [ho]
    unfold L2.start
    by_cases hi : i < ds.length
    · rw [List.getElem?_append_left (by rw [List.length_map]; exact hi), List.getElem?_map, List.getElem?_eq_getElem hi] at e
      cases e
      obtain ⟨v, h1, h2⟩ := h.get (List.getElem?_eq_getElem hi)
      refine ⟨some v, ?_, v, rfl, h2⟩
      rw [List.getElem?_append_left (by rw [List.length_map, h.length]; exact hi), List.getElem?_map, h1]
      rfl
    · rw [List.getElem?_append_right (by rw [List.length_map]; omega), List.length_map, List.getElem?_replicate] at e
      split at e
      · rename_i hl
        cases e
        refine ⟨none, ?_, trivial⟩
        rw [List.getElem?_append_right (by rw [List.length_map, h.length]; omega), List.length_map, List.getElem?_replicate, h.length, if_pos hl]
      · cases e
section
variable {P : Program} {w : World} {K : PySem.W.Frag} {mg : Str → Option Value} {base : Heap}
theorem def_ok {x qual : Str} {st : Stmt} {f : Addr} {fd : FuncData} {N ps : List Str} {k : Nat} {cl : Str → Addr} {body : En → R Fl} (F : Fun K x qual st f fd) (S : FnScope N ps (defScope st))
    (hb : ∀ (cdv : Value) (A : Around) (outer : List Env) (s : Shared) (H : Hp) (E : XK), Room k (A.deeper (PyProof.Rows.envOfC qual (defScope st) s.heap.objs.size f cdv)) →
      ∃ t, PSs (cxOf (L2.CX P w) P w K mg base N qual (defScope st) f cdv A outer s H E) (defBody st) t ∧ Es ⟨K, E, cl⟩ t body) :
    FnOk P w K mg base (L2.CX P w) (k + 1) f fd ps (spF K cl ps.length (runB N.length body)) := by
  refine F.okX S (fun vs H Q E h => h.choose_spec.choose_spec.1) fun cdv A outer s H vs Q E hr h => ?_
  obtain ⟨t, ht, hs⟩ := hb cdv A outer s H E hr
  refine ⟨t, ht, ?_⟩
  obtain ⟨ext, ds, hl, hx, hv, wr⟩ := h
  refine hs H ext (fun _ _ => False) _ _ H (RS.start hx hv) _ ?_
  unfold runB at wr
  generalize body (ds.map SV.sh ++ List.replicate (N.length - ds.length) SV.no) = r at wr ⊢
  cases r with
  | ok fl =>
    cases fl with
    | nx e => exact fun reg σ H2 r2 => wr .non H2 r2.le .non
    | rt d => exact fun v H2 e2 h2 => wr v H2 e2 h2
    | bk e => exact wr.elim
    | ct e => exact wr.elim
  | exc c => exact wr
  | stuck => exact wr.elim
end
end Dn

namespace Dn
open PySem L2

/-! ### small words of the printed text -/
def sSh (i : Nat) (f : En → R Fl) : En → R Fl := fun en => f (sShare i en)
def sNx (f : En → R Fl) : En → R Fl := fun en => (f en).noexc
def sRetN : En → R Fl := fun _ => .ok (.rt .none)
def sCont : En → R Fl := fun en => .ok (.ct en)
def sBrk : En → R Fl := fun en => .ok (.bk en)
def dLst (fa : En → R (List PD)) : En → R (List PD) := fun en => (fa en).bind chk
def dYes : En → R Bool := fun _ => .ok true
section
variable {C : Cn} {X : Cx}
theorem et_yes : EdT C tYes dYes := fun H0 ext reg en σ H rs Q w => w H (Ex.refl H)
theorem c_len : CallR X (.builtin "len") (rLenA X.K) := call_len
theorem c_abs : CallR X (.builtin "abs") rAbs := call_abs
theorem c_int : CallR X (.type "int") rInt1 := call_int1
theorem c_max2 (hc : X.calm = true) : CallR X (.builtin "max") rMax2 := call_max2 hc
theorem hn_nil : ∀ (en : En) (ds : List PD), dNil en = .ok ds → ds.length = 0 := fun en ds h => by
  cases h
  rfl
theorem hn_cons {fa : En → R PD} {fr : En → R (List PD)} {n : Nat} (h : ∀ (en : En) (ds : List PD), fr en = .ok ds → ds.length = n) : ∀ (en : En) (ds : List PD), dCons fa fr en = .ok ds → ds.length = n + 1 := fun en ds q => by
  unfold dCons at q
  cases e : fa en with
  | ok x =>
    rw [e] at q
    simp only [R.bind_ok] at q
    cases e2 : fr en with
    | ok r =>
      rw [e2] at q
      simp only [R.bind_ok] at q
      cases q
      rw [List.length_cons, h en r e2]
    | exc c => rw [e2] at q; cases q
    | stuck => rw [e2] at q; cases q
  | exc c => rw [e] at q; cases q
  | stuck => rw [e] at q; cases q
end

/-! ### z[::-1] of a text -/
def revS (z : Str) : Str := ⟨z.cps.toList.reverse.toArray⟩
theorem revS_len (z : Str) : (revS z).length = z.length := by
  show z.cps.toList.reverse.toArray.size = z.cps.size
  simp
theorem sidx_rev (n : Nat) : Builtin.Str.strSliceIndices none none (-1) n = (List.range n).reverse := by
  show sliceRange ((n : Int) - 1) (-1) (-1) = _
  rw [PySem.W.krv_sliceRange, PySem.W.krv_range]
def tRevS (te : TE) : TE := fun σ H Q => te σ H fun x H1 => ∃ z, x = .str z ∧ z.length ≤ sizeLine ∧ Q (.str (revS z)) H1
section
variable {X : Cx}
theorem pe_revS {e : Expr} {te : TE} {k : Nat} {p1 p2 p3 pos : Pos} (he : PE X e te) : PE X (.Subscript e (.Slice none none (some (.UnaryOp .USub (.Constant (.int 1) k p1) p2)) p3) pos) (tRevS te) := by
  refine ⟨fun pins s σ H Q I h => ?_⟩
  refine PyProof.Rows.Subscript_ (thn (he.run pins s σ H _ I h) fun v s1 ⟨x, H1, I1, r1, q1⟩ => ?_)
  obtain ⟨z, ex, hz, q⟩ := q1
  subst ex
  obtain ⟨t, rfl⟩ := r1
  have hst : PO X (some (.UnaryOp .USub (.Constant (.int 1) k p1) p2)) (tPart (tUn (rU fun i => .int (-i)) (tC (.int 1)))) := po_some (pe_un un_neg pe_int)
  refine wpAny_Slice (thn (po_none.run pins s1 σ H1 (fun o H2 => o = none ∧ H2 = H1) I1 ⟨rfl, rfl⟩) fun vl s2 ⟨l, H2, I2, pl, el, e2⟩ => ?_)
  subst el e2
  refine thn (po_none.run pins s2 σ H2 (fun o H3 => o = none ∧ H3 = H2) I2 ⟨rfl, rfl⟩) fun vu s3 ⟨u, H3, I3, pu, eu, e3⟩ => ?_
  subst eu e3
  refine thn (hst.run pins s3 σ H3 (fun o H4 => o = some (-1) ∧ H4 = H3) I3 ⟨1, rfl, -1, rfl, rfl, rfl⟩) fun vs s4 ⟨o, H4, I4, ps, eo, e4⟩ => ?_
  subst eo e4
  have I5 : Inv X pins σ H4 { s4 with heap := s4.heap.push { cls := .type "slice", data := .fields #[vl, vu, vs] } } := I4.kept (t' := s4.toks) fun b ob q => Heap.get?_push_of_some _ q
  show wpAny (model X.prog X.w) X.A (PyProof.Rows.subscriptTail e (.Slice none none (some (.UnaryOp .USub (.Constant (.int 1) k p1) p2)) p3) (.str z t) (.ref s4.heap.objs.size)) (EP X pins σ Q) X.xe { s4 with heap := s4.heap.push { cls := .type "slice", data := .fields #[vl, vu, vs] } }
  cases pl
  cases pu
  cases ps with
  | int _ t2 =>
    refine PyProof.Rows.tail_any (ops := [.str z t, .ref s4.heap.objs.size]) (typeIs_str _ _ _) F.slot_str_getitem.lookup ?_ (by with_unfolding_all rfl)
    refine wpAny_getItem_str_slice (l := none) (u := none) (st := some (-1, t2)) ⟨_, Heap.get?_push_size _ rfl, rfl, rfl⟩ rfl ?_
    show Made.post (if ((-1 : Int) == 1 && (Builtin.Str.strSliceIndices none none (-1) z.length).length == z.length) = true then Made.val (.str z t)
      else Made.str ⟨((Builtin.Str.strSliceIndices none none (-1) z.length).filterMap (z.cps[·]?)).toArray⟩) (EP X pins σ Q) _
    rw [if_neg (by simp), sidx_rev, List.filterMap_reverse, show z.length = z.cps.size from rfl, PySem.W.krv_all]
    refine ⟨?_, .str _, H4, I5.tok _, ⟨_, rfl⟩, q⟩
    have h := revS_len z
    have h2 : (revS z).length ≤ sizeLine := by rw [h]; exact hz
    exact h2
def tOrE (t u : TE) : TE := fun σ H Q => t σ H Q ∨ u σ H Q
theorem pe_orE {e : Expr} {t u : TE} (h : PE X e t) (h' : PE X e u) : PE X e (tOrE t u) := ⟨fun pins s σ H Q I q => by
  rcases q with q | q
  · exact h.run pins s σ H Q I q
  · exact h'.run pins s σ H Q I q⟩
def tRev (K : PySem.W.Frag) (te : TE) : TE := tOrE (tRevL K te) (tRevS te)
theorem pe_rev {e : Expr} {te : TE} {k : Nat} {p1 p2 p3 pos : Pos} (he : PE X e te) : PE X (.Subscript e (.Slice none none (some (.UnaryOp .USub (.Constant (.int 1) k p1) p2)) p3) pos) (tRev X.K te) := pe_orE (pe_revL he) (pe_revS he)
end
def revD : PD → R PD
  | .list ds => .ok (.list ds.reverse)
  | .str z => if z.length ≤ szN then .ok (.str (revS z)) else .stuck
  | _ => .stuck
section
variable {C : Cn} {ta : TE} {fa : En → R PD}
theorem ed_rev (h : EdL C ta fa) : EdS C (tRev C.K ta) (d1 revD fa) := fun H0 ext reg en σ H rs Q w => by
  unfold d1 at w
  cases e : fa en with
  | exc c =>
    rw [e] at w
    exact .inl (h H0 ext reg en σ H rs _ (by rw [e]; exact w))
  | stuck => rw [e] at w; exact w.elim
  | ok x =>
    rw [e] at w
    simp only [R.bind_ok] at w
    cases x with
    | list ds =>
      refine .inl (h H0 ext reg en σ H rs _ ?_)
      rw [e]
      intro v H2 e2 hv
      obtain ⟨p, xs, rfl, hp, hr⟩ := hv.lst fun a z => .inl z
      exact ⟨p, xs, rfl, SqL.of hp, fun q hq => w _ _ (e2.trans (Ex.new hq)) (Rp.newL (fun a z => (rs.ex e2).there z) hq hr.reverse)⟩
    | str z =>
      refine .inr (h H0 ext reg en σ H rs _ ?_)
      rw [e]
      intro v H2 e2 hv
      unfold revD at w
      dsimp only at w
      split at w
      · rename_i hl
        exact ⟨z, hv.str, sz_of hl, w _ H2 e2 (.str _)⟩
      · exact w.elim
    | _ => exact w.elim
end

/-! ### constants of the module -/
structure KC (K : PySem.W.Frag) (mg : Str → Option Value) (x : Str) (v : V) : Prop where
  at_ : ∃ u, mg x = some u ∧ RelV v u
theorem KC.pe {X : Cx} {x : Str} {v : V} {pos : Pos} (k : KC X.K X.mg x v) (hg : Gl X x) (hd : (x == ("__debug__" : Str)) = false := by decide) : PE X (.Name x pos) (tC v) :=
  let ⟨_, h1, h2⟩ := k.at_; pe_glob hg h1 h2 hd

/-- a dict of the module whose keys are True and False -/
def leafB : List DictEntry → Bool
  | [] => true
  | e :: r => (match e.key with
    | .bool b => e.hash == hashInt (if b = true then 1 else 0)
    | _ => false) && leafB r
structure KBd (K : PySem.W.Frag) (p : Addr) (f : Bool → V) : Prop where
  at_ : ∃ es n, K.lookup p = some ⟨.type "dict", none, .dict es n, #[]⟩ ∧ leafB es.toList = true ∧ ∀ b, ∃ u, findBy Leaf.isOf es (.num (if b = true then 1 else 0)) = some u ∧ RelV (f b) u
theorem leafB_all : ∀ {es : List DictEntry}, leafB es = true → ∀ e ∈ es, ∃ k : Leaf, Leaf.isOf k e.key = true ∧ ∀ w, e.hash = k.key.hash w
  | e :: r, h, e', hm => by
    unfold leafB at h
    rw [Bool.and_eq_true] at h
    rcases List.mem_cons.mp hm with rfl | hm
    · have h1 := h.1
      split at h1
      · rename_i b hb
        exact ⟨.num (if b = true then 1 else 0), by rw [hb]; exact decide_eq_true rfl, fun w => beq_iff_eq.mp h1⟩
      · cases h1
    · exact leafB_all h.2 e' hm
def rIxB (K : PySem.W.Frag) : R2 := fun x y H Q => ∃ p b f, x = .ref p ∧ y = .bl b ∧ KBd K p f ∧ Q (f b) H
theorem ix_kb {X : Cx} : IxR X (rIxB X.K) := by
  intro value slice pins s σ H x y v u Q I rx ry h hs
  obtain ⟨p, b, f, rfl, rfl, ⟨es, n, hl, hk, hf⟩, q⟩ := h
  obtain rfl : v = Value.ref p := rx
  obtain rfl : u = Value.bool b := ry
  obtain ⟨u0, hu, ru⟩ := hf b
  have hm : s.heap.MapOf (leafKind X.prog X.w) p (fun k => findBy Leaf.isOf es k) :=
    ⟨_, es, n, I.kIn _ _ hl, ⟨rfl, rfl, rfl⟩, rfl, fun e he => by
      obtain ⟨k, h1, h2⟩ := leafB_all hk e (Array.mem_toList_iff.mpr he)
      exact ⟨k, h1, h2 X.w⟩, fun _ => rfl⟩
  exact PyProof.Rows.tail_any hm.typeIs slot_dict_getitem.lookup (wpAny_getItem_of (knd := leafKind X.prog X.w) (k := .num (if b = true then 1 else 0)) (by exact decide_eq_true rfl) hm hu ⟨f b, H, I.tok _, ru, q⟩) hs
/-- .. and what it holds stands for -/
structure KBm (K : PySem.W.Frag) (mg : Str → Option Value) (x : Str) (dt df : PD) : Prop where
  at_ : ∃ p f, mg x = some (.ref p) ∧ KBd K p f ∧ (∀ H, Rp K H (f true) dt) ∧ ∀ H, Rp K H (f false) df
def kvB (dt df : PD) : PD → R PD
  | .bool true => .ok dt
  | .bool false => .ok df
  | _ => .stuck
def tKB (K : PySem.W.Frag) (dt df : PD) (tb : TE) : TE := fun σ H Q => tb σ H fun y H2 => ∃ b, y = .bl b ∧ ∀ v, (∀ H, Rp K H v (if b = true then dt else df)) → Q v H2
theorem KBm.pe {X : Cx} {x : Str} {dt df : PD} {b : Expr} {tb : TE} {pos pos2 : Pos} (k : KBm X.K X.mg x dt df) (hg : Gl X x) (hb : PE X b tb) (hs : PlainIx b) (hd : (x == ("__debug__" : Str)) = false := by decide) :
    PE X (.Subscript (.Name x pos) b pos2) (tKB X.K dt df tb) := by
  obtain ⟨p, f, h1, h2, h3, h4⟩ := k.at_
  refine ⟨fun pins s σ H Q I q => PyProof.Rows.Subscript_ (ld_glob I hg h1 (thn (hb.run pins s σ H _ I q) fun u s2 ⟨y, H2, I2, ry, c, ey, q2⟩ => ?_) hd)⟩
  subst ey
  refine ix_kb _ _ pins s2 σ H2 (.ref p) (.bl c) (.ref p) u Q I2 rfl ry ⟨p, c, f, rfl, rfl, h2, q2 _ ?_⟩ (hs _ _)
  cases c with
  | true => exact h3
  | false => exact h4
section
variable {C : Cn} {tb : TE} {fb : En → R PD}
theorem ed_kb {dt df : PD} (h : EdL C tb fb) : EdS C (tKB C.K dt df tb) (d1 (kvB dt df) fb) := fun H0 ext reg en σ H rs Q w =>
  h.seq rs (W := WrS C (own ext reg) H Q) w (fun _ q => q) (fun q => q) fun x v H2 e2 r2 h2 w2 => by
    cases x with
    | bool b => 
      refine ⟨b, h2.bl, fun v hv => ?_⟩
      cases b with
      | true => exact w2 v H2 e2 (hv _)
      | false => exact w2 v H2 e2 (hv _)
    | _ => exact w2.elim
end
end Dn

namespace Dn
open PySem L2

/-! ### the script -/
def dLenR (i : Nat) : En → R PD := fun en => match en[i]? with
  | some (.rl ds) => .ok (.int ds.length)
  | _ => .stuck
section
variable {C : Cn}
theorem ed_lenR (i : Nat) : EdS C (tCB (rLenA C.K) (tCons (tVar i) tNil)) (dLenR i) := fun H0 ext reg en σ H rs Q w => by
  unfold dLenR at w
  cases h : en[i]? with
  | none => rw [h] at w; exact w.elim
  | some sv =>
    rw [h] at w
    obtain ⟨v, h1, h2⟩ := rs.sl i sv h
    cases sv with
    | rl ds =>
      obtain ⟨p, xs, rfl, h3, h4⟩ := h2
      exact ⟨_, h1, .ref p, _, rfl, .inl ⟨xs, hid_ex.sql h3, rfl⟩, by rw [h4.length]; exact w _ H (Ex.refl H) (.int _)⟩
    | _ => exact w.elim
end
def cellF (ns : List Int) (k : Int) : Int := if ns = [] then k * 7919 else ns.getD (k % (ns.length : Int)).toNat 0 + k / (ns.length : Int) * 104729
def spCell (K : PySem.W.Frag) : Sp := fun vs H Q _ => ∃ (a : Addr) (ns : List Int) (k : Int), vs = [.ref a, .int k] ∧ SqL K H a (ns.map V.int) ∧ ns.length ≤ 63 ∧ 0 ≤ k ∧ k < 2 ^ 32 ∧ ∀ H', Ex H H' → Q (.int (cellF ns k)) H'
def dCell (i : Nat) (fk : En → R PD) : En → R PD := fun en => match en[i]? with
  | some (.rl ds) => (fk en).bind fun k => match asInts ds, k with
    | some ns, .int k => if ns.length ≤ 63 ∧ 0 ≤ k ∧ k < 2 ^ 32 then .ok (.int (cellF ns k)) else .stuck
    | _, _ => .stuck
  | _ => .stuck
section
variable {C : Cn}
theorem ed_cell (i : Nat) {tk : TE} {fk : En → R PD} (hk : EdL C tk fk) : EdS C (tCall (spCell C.K) [] C.E (tCons (tVar i) (tCons tk tNil))) (dCell i fk) := fun H0 ext reg en σ H rs Q w => by
  unfold dCell at w
  cases h : en[i]? with
  | none => rw [h] at w; exact w.elim
  | some sv =>
    rw [h] at w
    obtain ⟨v, h1, h2⟩ := rs.sl i sv h
    cases sv with
    | rl ds =>
      obtain ⟨p, xs, rfl, h3, h4⟩ := h2
      refine ⟨_, h1, hk.seq rs (W := WrS C (own ext reg) H Q) w (fun _ q => q) (fun q => q) fun x v H2 e2 r2 hv w2 => ?_⟩
      split at w2
      · rename_i ns k hn
        split at w2
        · rename_i hl
          obtain rfl := hv.int
          rw [h4.asInts hn] at h3
          exact ⟨p, ns, k, rfl, hid_ex.sql (e2.hid.sql h3), hl.1, hl.2.1, hl.2.2, fun H' e' => w2 _ H' (e2.trans e') (.int _)⟩
        · exact w2.elim
      · exact w2.elim
    | _ => exact w.elim
end
section
variable {P : Program} {w : World} {K : PySem.W.Frag} {mg : Str → Option Value} {base : Heap}
/-- how _law_cell reads -/
def tCellB (K : PySem.W.Frag) : TS :=
  tSeq (tIfS (tTest (tOp (rEqA K) (tVar 0) (tLst tNil))) (tRet (tOp rMulD (tVar 1) (tC (.int 7919)))) tNext)
    (tRet (tOp rAddD (tOp (rIx K) (tVar 0) (tOp (rI (fun _ j => 0 < j) fun i j => .int (i % j)) (tVar 1) (tCB (rLenA K) (tCons (tVar 0) tNil))))
      (tOp rMulD (tOp (rI CDivW fun i j => .int (i / j)) (tVar 1) (tCB (rLenA K) (tCons (tVar 0) tNil))) (tC (.int 104729)))))
theorem dp_ints {K : PySem.W.Frag} {H : Hp} : ∀ (ns : List Int), DpAll K H (ns.map V.int) (ns.map PyData.int)
  | [] => .nil
  | n :: r => .cons (.int n) (dp_ints r)
theorem shaped_ints (ns : List Int) : SeqAt.shaped (.list (ns.map PyData.int)) = true := by
  have h1 : ∀ l : List Int, PyData.canLayAll0 (l.map PyData.int) = true := fun l => by
    induction l with
    | nil => rfl
    | cons a r ih => show (PyData.canLay0 (.int a) && PyData.canLayAll0 (r.map PyData.int)) = true; rw [ih]; rfl
  have h2 : ∀ l : List Int, PyData.depthAll (l.map PyData.int) = 0 := fun l => by
    induction l with
    | nil => rfl
    | cons a r ih => show max (PyData.depth (.int a)) (PyData.depthAll (r.map PyData.int)) = 0; rw [ih]; rfl
  unfold SeqAt.shaped
  rw [Bool.and_eq_true]
  refine ⟨?_, decide_eq_true ?_⟩
  · show PyData.canLayAll0 _ = true
    exact h1 ns
  · show PyData.depthAll _ + 1 ≤ 64
    rw [h2]
    decide
theorem cell_reads {H : Hp} {Q : VK} {E : XK} {vs : List V} {nx : L2.St → Hp → Prop} (h : spCell K vs H Q E) : tCellB K { nx := nx, rt := Q } (L2.start ["script", "k"] vs) H := by
  obtain ⟨a, ns, k, rfl, hs, hl, h0, h1, q⟩ := h
  refine ⟨.ref a, rfl, Nat.zero_le _, fun p hp => ?_⟩
  have e1 : Ex H (upd H p (.lst [])) := Ex.new hp
  refine .inr ⟨.list (ns.map PyData.int), .list [], .lst (e1.sql hs) (dp_ints ns), .lst (SqL.of upd_same) .nil, shaped_ints ns, by decide, _, rfl, ?_⟩
  cases ns with
  | nil =>
    have e2 : PyData.eqv (.list (([] : List Int).map PyData.int)) (.list []) = true := rfl
    rw [e2, if_pos rfl]
    exact ⟨_, rfl, .inl ⟨k, 7919, rfl, rfl, .inr ⟨by decide, by decide⟩, q _ e1⟩⟩
  | cons n r =>
    have e2 : PyData.eqv (.list ((n :: r).map PyData.int)) (.list []) = false := rfl
    rw [e2, if_neg (by decide)]
    have hs1 := e1.sql hs
    have hpos : (0 : Int) < ((n :: r).map V.int).length := by
      rw [List.length_map, List.length_cons]
      omega
    have hlen : ((n :: r).map V.int).length = (n :: r).length := List.length_map ..
    have hm := Int.emod_nonneg k (show ((n :: r).length : Int) ≠ 0 by rw [List.length_cons]; omega)
    have hm2 := Int.emod_lt_of_pos k (show (0 : Int) < ((n :: r).length : Int) by rw [List.length_cons]; omega)
    have hi : (k % ((n :: r).length : Int)).toNat < (n :: r).length := by omega
    refine ⟨.ref a, rfl, _, rfl, _, rfl, .ref a, _, rfl, .inl ⟨_, hs1, rfl⟩, k, _, rfl, rfl, hpos, .inl ⟨a, _, _, .int ((n :: r).getD (k % ((n :: r).length : Int)).toNat 0), rfl, rfl, hs1, ?_, _, rfl, _, rfl, .ref a, _, rfl, .inl ⟨_, hs1, rfl⟩, k, _, rfl, rfl, ⟨hpos, ?_⟩, ?_⟩⟩
    · rw [hlen]
      unfold atI ixN
      rw [List.length_map, if_pos hm, if_pos hm2]
      show ((n :: r).map V.int)[_]? = _
      rw [List.getElem?_map, List.getElem?_eq_getElem hi, List.getD_eq_getElem?_getD, List.getElem?_eq_getElem hi]
      rfl
    · rw [hlen, Int.natAbs_natCast]
      have : (n :: r).length.log2 ≤ 63 := Nat.le_trans (Nat.log2_le_self _) hl
      omega
    · refine .inl ⟨_, 104729, rfl, rfl, .inr ⟨by decide, by decide⟩, .inl ⟨_, _, rfl, rfl, ?_⟩⟩
      have := q _ e1
      unfold cellF at this
      rw [if_neg (List.cons_ne_nil _ _)] at this
      rw [hlen]
      exact this
/-! ### the law -/
def runL (n : Nat) (f : En → R Fl) (ns : List Int) : R PD := (f (SV.rl (ns.map PyData.int) :: List.replicate (n - 1) SV.no)).bind fun fl => match fl with
  | .nx _ => .ok .none
  | .rt d => .ok d
  | _ => .stuck
def spLaw (K : PySem.W.Frag) : Sp := fun vs H Q _ => ∃ (a : Addr) (ns : List Int), vs = [.ref a] ∧ SqL K H a (ns.map V.int) ∧ ns.length ≤ 63 ∧ ∀ H', Q (.bl true) H'
theorem rpa_ints {K : PySem.W.Frag} {H : Hp} : ∀ (ns : List Int), RpA K H (ns.map V.int) (ns.map PyData.int)
  | [] => .nil
  | n :: r => .cons (.int n) (rpa_ints r)
theorem hid_none {H : Hp} : hid H (own (fun _ => False) fun _ _ => False) = H := by
  funext a
  exact hid_at fun z => by
    rcases z with z | ⟨_, z⟩
    · exact z
    · exact z
theorem RS.startL {K : PySem.W.Frag} {H : Hp} {a : Addr} {ns : List Int} {n : Nat} {N : List Str} (hn : N.length = n + 1) (hs : SqL K H a (ns.map V.int)) : RS K H (fun _ => False) (fun _ _ => False) (SV.rl (ns.map PyData.int) :: List.replicate n SV.no) (L2.start N [.ref a]) H := by
  refine ⟨Ex.refl H, fun _ h => h.elim, fun _ _ h => h.elim, fun _ _ _ h => h.elim, fun _ _ h => h.elim, ?_, fun i sv e => ?_⟩
  · unfold L2.start
    simp [hn]
  · rw [hid_none]
    unfold L2.start
    cases i with
    | zero =>
      cases e
      exact ⟨_, rfl, a, _, rfl, hs, rpa_ints ns⟩
    | succ i =>
      rw [List.getElem?_cons_succ, List.getElem?_replicate] at e
      split at e
      · rename_i hl
        cases e
        refine ⟨none, ?_, trivial⟩
        show (List.replicate (N.length - 1) none)[i]? = _
        rw [List.getElem?_replicate, if_pos (by omega)]
      · cases e
theorem law_ok {st : Stmt} {f : Addr} {fd : FuncData} {N : List Str} {k : Nat} {cl : Str → Addr} {body : En → R Fl} (F : Fun K "law" "law" st f fd) (S : FnScope N ["script"] (defScope st))
    (hb : ∀ (cdv : Value) (A : Around) (outer : List Env) (s : Shared) (H : Hp) (E : XK), Room k (A.deeper (PyProof.Rows.envOfC "law" (defScope st) s.heap.objs.size f cdv)) →
      ∃ t, PSs (cxOf (L2.CX P w) P w K mg base N "law" (defScope st) f cdv A outer s H E) (defBody st) t ∧ Es ⟨K, E, cl⟩ t body)
    (hN : 0 < N.length) (hd : ∀ ns : List Int, ns.length ≤ 63 → runL N.length body ns = .ok (.bool true)) :
    FnOk P w K mg base (L2.CX P w) (k + 1) f fd ["script"] (spLaw K) := by
  refine F.okX S (fun vs H Q E ⟨_, _, h, _⟩ => by rw [h]; rfl) fun cdv A outer s H vs Q E hr h => ?_
  obtain ⟨t, ht, hs⟩ := hb cdv A outer s H E hr
  refine ⟨t, ht, ?_⟩
  obtain ⟨a, ns, rfl, hq, hl, q⟩ := h
  have hN2 : N.length = (N.length - 1) + 1 := by omega
  refine hs H (fun _ => False) (fun _ _ => False) _ _ H (RS.startL hN2 hq) _ ?_
  have hd := hd ns hl
  unfold runL at hd
  revert hd
  generalize body (SV.rl (ns.map PyData.int) :: List.replicate (N.length - 1) SV.no) = r
  intro hd
  cases r with
  | ok fl =>
    cases fl with
    | nx e => cases hd
    | rt d =>
      cases hd
      intro v H2 e2 h2
      cases h2
      exact q H2
    | bk e => cases hd
    | ct e => cases hd
  | exc c => cases hd
  | stuck => cases hd
theorem cx_false {P : Program} {w : World} {H : Hp} {s s' : Shared} {e : Value} (h : L2.CX P w [] H s (fun _ _ _ => False) e s') : False := by
  obtain ⟨_, _, _, _, _, _, _, _, _, _, _, _, z⟩ := h
  exact z
end
end Dn

/-! The rules with the written part named: a comprehension's block changes the context, not it. -/
namespace Dn
open PySem L2
section
variable {X : Cx} (K : PySem.W.Frag) (h : X.K = K)
theorem kx_ix (h : X.K = K) : IxR X (rIx K) := by subst h; exact ix_seq
theorem kx_eq (h : X.K = K) (hu : X.A.units + 64 < cLine) : OpR X (compareOp .Eq) (rEqA K) := by subst h; exact op_eqA hu
theorem kx_ne (h : X.K = K) (hu : X.A.units + 64 < cLine) : OpR X (compareOp .NotEq) (rNeA K) := by subst h; exact op_neA hu
theorem kx_sl (h : X.K = K) : SlR X (rSlD K) := by subst h; exact sl_D
theorem kx_len (h : X.K = K) : CallR X (.builtin "len") (rLenA K) := by subst h; exact c_len
theorem kx_sum (h : X.K = K) (hc : X.calm = true) : CallR X (.builtin "sum") (rSum K) := by subst h; exact cr_sum hc
theorem kx_min (h : X.K = K) (hc : X.calm = true) : CallR X (.builtin "min") (rMinA K) := by subst h; exact c_min hc
theorem kx_any (h : X.K = K) (hc : X.calm = true) : CallR X (.builtin "any") (rAny K) := by subst h; exact cr_any hc
theorem kx_all (h : X.K = K) (hc : X.calm = true) : CallR X (.builtin "all") (rAll K) := by subst h; exact cr_all hc
theorem kx_isi (h : X.K = K) : CallR X (.builtin "isinstance") (rIsi K) := by subst h; exact call_isi
theorem kpi_list {tg l : Expr} {tl : TE} (h : X.K = K) (hl : PE X l tl) : PI X tg l (iList K tl) := by subst h; exact pi_list hl
theorem kpi_tup {tg l : Expr} {tl : TE} (h : X.K = K) (hl : PE X l tl) : PI X tg l (iTup K tl) := by subst h; exact pi_tup hl
theorem kpi_zip {e e2 : Expr} {ta : TA} {p pos tpos : Pos} {elts : List Expr} {kk : Nat} (h : X.K = K) (hg : Gl X "zip") (hm : X.mg "zip" = none) (ha : PA X [e, e2] ta)
    (hs : starEach [e, e2] X.env = (false, eval e X.env) :: starEach [e2] X.env := by rfl) (hs2 : (backTo pos (starEach [e2] X.env)).any (·.1) = false := by rfl) :
    PI X (.Tuple elts kk tpos) (.Call (.Name "zip" p) [e, e2] [] pos) (iZip K ta) := by subst h; exact pi_zip hg hm ha hs hs2
theorem kpi_enum {e : Expr} {ta : TA} {p pos tpos : Pos} {elts : List Expr} {kk : Nat} (h : X.K = K) (hg : Gl X "enumerate") (hm : X.mg "enumerate" = none) (ha : PA X [e] ta) (hs : starEach [e] X.env = [(false, eval e X.env)] := by rfl) :
    PI X (.Tuple elts kk tpos) (.Call (.Name "enumerate" p) [e] [] pos) (iEnum K ta) := by subst h; exact pi_enum hg hm ha hs
theorem kpg_tup {es : List Expr} {k : Nat} {pos : Pos} {t : TGs} {n : Nat} (h : X.K = K) (hc : X.calm = true) (hs : PGs X es t)
    (hn : (assignEach es X.env).length = n := by rfl) (hst : (assignEach es X.env).findIdx? (·.1) = none := by rfl) : PG X (.Tuple es k pos) (gTup K n t) := by subst h; exact pg_tup hc hs hn hst
theorem kpe_rev {e : Expr} {te : TE} {k : Nat} {p1 p2 p3 pos : Pos} (h : X.K = K) (he : PE X e te) : PE X (.Subscript e (.Slice none none (some (.UnaryOp .USub (.Constant (.int 1) k p1) p2)) p3) pos) (tRev K te) := by subst h; exact pe_rev he
theorem kpe_kb {mg : Str → Option Value} {x : Str} {dt df : PD} {b : Expr} {tb : TE} {pos pos2 : Pos} (k : KBm K mg x dt df) (h : X.K = K) (hm : X.mg = mg) (hg : Gl X x) (hb : PE X b tb) (hs : PlainIx b) (hd : (x == ("__debug__" : Str)) = false := by decide) :
    PE X (.Subscript (.Name x pos) b pos2) (tKB K dt df tb) := by subst h; subst hm; exact k.pe hg hb hs hd
theorem kpe_c {mg : Str → Option Value} {x : Str} {v : V} {pos : Pos} (k : KC K mg x v) (h : X.mg = mg) (hg : Gl X x) (hd : (x == ("__debug__" : Str)) = false := by decide) : PE X (.Name x pos) (tC v) := by
  subst h
  obtain ⟨_, h1, h2⟩ := k.at_
  exact pe_glob hg h1 h2 hd
end
end Dn

/-! What the printed denotations come to: rows for simp; texts as lists of codes. -/
namespace Dn
open PySem L2
section
variable {fa fb fc : En → R PD} {ft fu : En → R Bool} {f g : En → R Fl} {fr : En → R (List PD)} {en : En} {d : PD} {i : Nat}
@[simp] theorem dVar_ap : dVar i en = (match en[i]? with
  | some (.sh d) => .ok d
  | _ => .stuck) := rfl
@[simp] theorem dVarL_ap : dVarL i en = (match en[i]? with
  | some (.sh d) => .ok d
  | some (.ol ds) => .ok (.list ds)
  | some (.od es) => .ok (.dict es)
  | _ => .stuck) := rfl
@[simp] theorem dLenR_ap : dLenR i en = (match en[i]? with
  | some (.rl ds) => .ok (.int ds.length)
  | _ => .stuck) := rfl
@[simp] theorem dC_ap : dC d en = .ok d := rfl
@[simp] theorem d2_ap {g : PD → PD → R PD} : d2 g fa fb en = (fa en).bind fun x => (fb en).bind fun y => g x y := rfl
@[simp] theorem d1_ap {g : PD → R PD} : d1 g fa en = (fa en).bind g := rfl
@[simp] theorem dN_ap {g : List PD → R PD} : dN g fr en = (fr en).bind g := rfl
@[simp] theorem dCall_ap {F : List PD → R PD} : dCall F fr en = (fr en).bind F := rfl
@[simp] theorem dNil_ap : dNil en = .ok [] := rfl
@[simp] theorem dCons_ap : dCons fa fr en = (fa en).bind fun x => (fr en).bind fun r => .ok (x :: r) := rfl
@[simp] theorem dTest_ap : dTest fa en = (fa en).bind asB := rfl
@[simp] theorem asB_ap (b : Bool) : asB (.bool b) = .ok b := rfl
@[simp] theorem dAnd_ap : dAnd ft fu en = (ft en).bind fun b => match b with
  | true => fu en
  | false => .ok false := rfl
@[simp] theorem dOr_ap : dOr ft fu en = (ft en).bind fun b => match b with
  | true => .ok true
  | false => fu en := rfl
@[simp] theorem dNot_ap : dNot ft en = (ft en).bind fun b => .ok (!b) := rfl
@[simp] theorem dAndV_ap : dAndV fa fb en = (fa en).bind fun x => match x with
  | .bool true => fb en
  | .bool false => .ok (.bool false)
  | _ => .stuck := rfl
@[simp] theorem dOrV_ap : dOrV fa fb en = (fa en).bind fun x => match x with
  | .bool true => .ok (.bool true)
  | .bool false => fb en
  | _ => .stuck := rfl
@[simp] theorem notD_ap (b : Bool) : notD (.bool b) = .ok (.bool (!b)) := rfl
@[simp] theorem dIf_ap : dIf ft fa fb en = (ft en).bind fun b => match b with
  | true => fa en
  | false => fb en := rfl
@[simp] theorem dChain_ap {g g' : PD → PD → R PD} : dChain g g' fa fb fc en = (fa en).bind fun x => (fb en).bind fun y => (g x y).bind fun z => match z with
  | .bool true => (fc en).bind fun w => g' y w
  | .bool false => .ok (.bool false)
  | _ => .stuck := rfl
@[simp] theorem dSl_ap {fl fh : En → R (Option Int)} : dSl fa fl fh en = (fa en).bind fun x => (fl en).bind fun l => (fh en).bind fun u => slD x l u := rfl
@[simp] theorem dOno_ap : dOno en = .ok none := rfl
@[simp] theorem dOso_ap : dOso fa en = (fa en).bind fun x => match x with
  | .int i => .ok (some i)
  | _ => .stuck := rfl
@[simp] theorem dF_ap : dF fr en = (fr en).bind fun ds => .ok (.list ds) := rfl
@[simp] theorem dIt_ap {g : PD → R (List PD)} : dIt g fa en = (fa en).bind g := rfl
@[simp] theorem dItA_ap {g : List PD → R (List PD)} : dItA g fr en = (fr en).bind g := rfl
@[simp] theorem dYes_ap : dYes en = .ok true := rfl
@[simp] theorem dLst_ap : dLst fr en = (fr en).bind chk := rfl
@[simp] theorem asL_ap (ds : List PD) : asL (.list ds) = .ok ds := rfl
@[simp] theorem asT_ap (ds : List PD) : asT (.tuple ds) = .ok ds := rfl
@[simp] theorem sNil_ap : sNil en = .ok (.nx en) := rfl
@[simp] theorem sSeq_ap : sSeq f g en = (f en).bind fun x => match x with
  | .nx e => g e
  | y => .ok y := rfl
@[simp] theorem sAsg_ap : sAsg i fa en = (fa en).bind fun d => .ok (.nx (en.set i (.sh d))) := rfl
@[simp] theorem sAsgG_ap {gf : PD → En → R En} : sAsgG gf fa en = (fa en).bind fun d => (gf d en).noexc.bind fun e => .ok (.nx e) := rfl
@[simp] theorem sAsgF_ap : sAsgF i fr en = (fr en).bind fun ds => if i < en.length then .ok (.nx (en.set i (.ol ds))) else .stuck := rfl
@[simp] theorem sRet_ap : sRet fa en = (fa en).bind fun d => .ok (.rt d) := rfl
@[simp] theorem sRetN_ap : sRetN en = .ok (.rt .none) := rfl
@[simp] theorem sCont_ap : sCont en = .ok (.ct en) := rfl
@[simp] theorem sBrk_ap : sBrk en = .ok (.bk en) := rfl
@[simp] theorem sDrop_ap : sDrop fa en = (fa en).bind fun _ => .ok (.nx en) := rfl
@[simp] theorem sIf_ap : sIf ft f g en = (ft en).bind fun b => match b with
  | true => f en
  | false => g en := rfl
@[simp] theorem sRaise_ap {c : Str} : sRaise c en = .exc c := rfl
@[simp] theorem sApp_ap : sApp i fa en = (match en[i]? with
  | some (.ol ds) => (fa en).bind fun d => if ds.length + 1 ≤ szN then .ok (.nx (en.set i (.ol (ds ++ [d])))) else .stuck
  | _ => .stuck) := rfl
@[simp] theorem sExt_ap : sExt i fa en = (match en[i]? with
  | some (.ol ds) => (fa en).bind fun d => match d with
    | .list es => if ds.length + es.length ≤ szN then .ok (.nx (en.set i (.ol (ds ++ es)))) else .stuck
    | _ => .stuck
  | _ => .stuck) := rfl
@[simp] theorem sPar_ap {j : Nat} : sPar i j fr en = (fr en).bind fun ds => match ds with
  | [x, y] => .ok (.nx ((en.set i (.sh x)).set j (.sh y)))
  | _ => .stuck := rfl
@[simp] theorem sSh_ap : sSh i f en = f (sShare i en) := rfl
@[simp] theorem sNx_ap : sNx f en = (f en).noexc := rfl
@[simp] theorem sFor_ap {tg : PD → En → R En} : sFor fr tg f en = (fr en).bind fun ds => loopF tg f ds en := rfl
@[simp] theorem sWhile_ap {n : Nat} : sWhile n ft f en = loopW ft f n en := rfl
@[simp] theorem loopF_nil {tg : PD → En → R En} : loopF tg f [] en = .ok (.nx en) := rfl
theorem loopF_cons {tg : PD → En → R En} {x : PD} {r : List PD} : loopF tg f (x :: r) en = (tg x en).noexc.bind fun e => (f e).bind fun fl => match fl with
    | .nx e2 => loopF tg f r e2
    | .ct e2 => loopF tg f r e2
    | .bk e2 => .ok (.nx e2)
    | .rt d => .ok (.rt d) := rfl
@[simp] theorem gN_ap {x : PD} : gN i x en = .ok (en.set i (.sh x)) := rfl
@[simp] theorem gT_ap {n : Nat} {h : List PD → En → R En} {ds : List PD} : gT n h (.tuple ds) en = if ds.length = n then h ds en else .stuck := rfl
@[simp] theorem gNl_ap : gNl [] en = .ok en := rfl
@[simp] theorem gCn_ap {h : PD → En → R En} {k : List PD → En → R En} {x : PD} {r : List PD} : gCn h k (x :: r) en = (h x en).bind fun e => k r e := rfl
@[simp] theorem addD_int (a b : Int) : addD (.int a) (.int b) = .ok (.int (a + b)) := rfl
theorem addD_str (a b : Str) (h : a.length + b.length ≤ szN) : addD (.str a) (.str b) = .ok (.str (a ++ b)) := if_pos h
theorem addD_list (a b : List PD) (h : a.length + b.length ≤ szN) : addD (.list a) (.list b) = .ok (.list (a ++ b)) := if_pos h
@[simp] theorem subD_int (a b : Int) : subD (.int a) (.int b) = .ok (.int (a - b)) := rfl
@[simp] theorem ltD_int (a b : Int) : ltD (.int a) (.int b) = .ok (.bool (decide (a < b))) := rfl
@[simp] theorem leD_int (a b : Int) : leD (.int a) (.int b) = .ok (.bool (decide (a ≤ b))) := rfl
@[simp] theorem gtD_int (a b : Int) : gtD (.int a) (.int b) = .ok (.bool (decide (b < a))) := rfl
@[simp] theorem geD_int (a b : Int) : geD (.int a) (.int b) = .ok (.bool (decide (b ≤ a))) := rfl
@[simp] theorem i20_int {h : Int → Int → PD} (a b : Int) : i20 h (.int a) (.int b) = .ok (h a b) := rfl
theorem modD_int (a b : Int) (h : 0 < b) : modD (.int a) (.int b) = .ok (.int (a % b)) := if_pos (decide_eq_true h)
theorem fdivD_int (a b : Int) (h : 0 < b ∧ b.natAbs.log2 < 9000) : fdivD (.int a) (.int b) = .ok (.int (a / b)) := if_pos (decide_eq_true h)
theorem mulD_l (a b : Int) (h : -(2 ^ 64) < a ∧ a < 2 ^ 64) : mulD (.int a) (.int b) = .ok (.int (a * b)) := if_pos (by
  unfold mulC
  rw [decide_eq_true (p := (-(2 ^ 64) < a ∧ a < 2 ^ 64) ∨ (-(2 ^ 64) < b ∧ b < 2 ^ 64)) (.inl h)]
  rfl)
theorem mulD_r (a b : Int) (h : -(2 ^ 64) < b ∧ b < 2 ^ 64) : mulD (.int a) (.int b) = .ok (.int (a * b)) := if_pos (by
  unfold mulC
  rw [decide_eq_true (p := (-(2 ^ 64) < a ∧ a < 2 ^ 64) ∨ (-(2 ^ 64) < b ∧ b < 2 ^ 64)) (.inr h)]
  rfl)
theorem mulD_w (a b : Int) (h : a.natAbs < 2 ^ 1000 ∧ b.natAbs < 2 ^ 1000) : mulD (.int a) (.int b) = .ok (.int (a * b)) := if_pos (by
  unfold mulC
  have x := PySem.Flt.log2_lt_of (by decide) h.1
  have y := PySem.Flt.log2_lt_of (by decide) h.2
  rw [decide_eq_true (p := a.natAbs.log2 + b.natAbs.log2 < 1000000) (by omega)]
  exact Bool.or_true _)
@[simp] theorem lenD_list (ds : List PD) : lenD [.list ds] = .ok (.int ds.length) := rfl
@[simp] theorem lenD_tup (ds : List PD) : lenD [.tuple ds] = .ok (.int ds.length) := rfl
theorem lenD_str (z : Str) (h : z.length ≤ szN) : lenD [.str z] = .ok (.int z.length) := if_pos h
@[simp] theorem intD_bool (b : Bool) : intD [.bool b] = .ok (.int (if b then 1 else 0)) := rfl
@[simp] theorem intD_int (b : Int) : intD [.int b] = .ok (.int b) := rfl
@[simp] theorem absD_int (i : Int) : absD [.int i] = .ok (.int (if i < 0 then -i else i)) := rfl
@[simp] theorem max2D_int (i j : Int) : max2D [.int i, .int j] = .ok (.int (if j > i then j else i)) := rfl
@[simp] theorem minD_int (i j : Int) : minD [.int i, .int j] = .ok (.int (if j < i then j else i)) := rfl
@[simp] theorem negD_int (i : Int) : negD (.int i) = .ok (.int (-i)) := rfl
@[simp] theorem isiD_ap {h : PD → Bool} {x : PD} : isiD h x = .ok (.bool (h x)) := rfl
theorem mkT_ok (ds : List PD) (h : ds.length ≤ szN) : mkT ds = .ok (.tuple ds) := if_pos h
theorem mkL_ok (ds : List PD) (h : ds.length ≤ szN) : mkL ds = .ok (.list ds) := if_pos h
theorem chk_ok (ds : List PD) (h : ds.length ≤ szN) : chk ds = .ok ds := if_pos h
@[simp] theorem mkT_2 (a b : PD) : mkT [a, b] = .ok (.tuple [a, b]) := mkT_ok _ (by show 2 ≤ szN; decide)
@[simp] theorem mkT_3 (a b c : PD) : mkT [a, b, c] = .ok (.tuple [a, b, c]) := mkT_ok _ (by show 3 ≤ szN; decide)
@[simp] theorem mkL_0 : mkL [] = .ok (.list []) := mkL_ok _ (by show 0 ≤ szN; decide)
@[simp] theorem mkL_1 (a : PD) : mkL [a] = .ok (.list [a]) := mkL_ok _ (by show 1 ≤ szN; decide)
@[simp] theorem mkL_2 (a b : PD) : mkL [a, b] = .ok (.list [a, b]) := mkL_ok _ (by show 2 ≤ szN; decide)
@[simp] theorem mkL_3 (a b c : PD) : mkL [a, b, c] = .ok (.list [a, b, c]) := mkL_ok _ (by show 3 ≤ szN; decide)
@[simp] theorem mkL_5 (a b c d e : PD) : mkL [a, b, c, d, e] = .ok (.list [a, b, c, d, e]) := mkL_ok _ (by show 5 ≤ szN; decide)
@[simp] theorem chk_0 : chk [] = .ok [] := chk_ok _ (by show 0 ≤ szN; decide)
@[simp] theorem slD_list (ds : List PD) (l h : Option Int) : slD (.list ds) l h = .ok (.list (cutD ds l h)) := rfl
@[simp] theorem revD_list (ds : List PD) : revD (.list ds) = .ok (.list ds.reverse) := rfl
theorem revD_str (z : Str) (h : z.length ≤ szN) : revD (.str z) = .ok (.str (revS z)) := if_pos h
theorem ixD_list (ds : List PD) (i : Int) (d : PD) (h : atI ds i = some d) : ixD (.list ds) (.int i) = .ok d := by
  show (match atI ds i with | some d => R.ok d | none => .stuck) = _
  rw [h]
theorem ixD_tup (ds : List PD) (i : Int) (d : PD) (h : atI ds i = some d) : ixD (.tuple ds) (.int i) = .ok d := by
  show (match atI ds i with | some d => R.ok d | none => .stuck) = _
  rw [h]
@[simp] theorem ixD_t20 (a b : PD) : ixD (.tuple [a, b]) (.int 0) = .ok a := rfl
@[simp] theorem ixD_t21 (a b : PD) : ixD (.tuple [a, b]) (.int 1) = .ok b := rfl
@[simp] theorem eqD_int (a b : Int) : eqD (.int a) (.int b) = .ok (.bool (decide (a = b))) := rfl
@[simp] theorem eqD_bool (a b : Bool) : eqD (.bool a) (.bool b) = .ok (.bool (decide (a = b))) := rfl
@[simp] theorem eqD_str (a b : Str) : eqD (.str a) (.str b) = .ok (.bool (decide (a = b))) := rfl
@[simp] theorem neD_int (a b : Int) : neD (.int a) (.int b) = .ok (.bool (!decide (a = b))) := rfl
@[simp] theorem neD_bool (a b : Bool) : neD (.bool a) (.bool b) = .ok (.bool (!decide (a = b))) := rfl
@[simp] theorem neD_str (a b : Str) : neD (.str a) (.str b) = .ok (.bool (!decide (a = b))) := rfl
end
theorem atI_nat' {α : Type} (xs : List α) (k : Nat) : atI xs (k : Int) = xs[k]? := by
  unfold atI ixN
  rw [if_pos (by omega)]
  by_cases h : k < xs.length
  · rw [if_pos (by omega)]
    simp
  · rw [if_neg (by omega), List.getElem?_eq_none (by omega)]
    rfl
theorem atI_last' {α : Type} (xs : List α) (h : xs ≠ []) : atI xs (-1) = xs.getLast? := by
  unfold atI ixN
  have : 0 < xs.length := List.length_pos_iff.mpr h
  rw [if_neg (by omega), if_pos (by omega), List.getLast?_eq_getElem?]
  show xs[_]? = _
  congr 1
  omega
/-! ### texts as lists of codes -/
def st (l : List Nat) : Str := ⟨l.toArray⟩
theorem st_len (l : List Nat) : (st l).length = l.length := by
  show l.toArray.size = _
  simp
theorem st_app (a b : List Nat) : st a ++ st b = st (a ++ b) := by
  show (⟨a.toArray ++ b.toArray⟩ : Str) = _
  unfold st
  simp
theorem st_inj {a b : List Nat} (h : st a = st b) : a = b := by
  have h2 := congrArg (fun z : Str => z.cps.toList) h
  simpa [st] using h2
theorem st_rev (a : List Nat) : revS (st a) = st a.reverse := by
  unfold revS st
  simp
/-! ### loops in general -/
theorem loopF_inv {tg : PD → En → R En} {f : En → R Fl} (P : List PD → En → Prop) (step : ∀ x r en, P (x :: r) en → ∃ en', loopF tg f (x :: r) en = loopF tg f r en' ∧ P r en') :
    ∀ (l : List PD) (en : En), P l en → ∃ en', loopF tg f l en = .ok (.nx en') ∧ P [] en'
  | [], en, h => ⟨en, rfl, h⟩
  | x :: r, en, h => by
    obtain ⟨e1, h1, h2⟩ := step x r en h
    obtain ⟨e2, h3, h4⟩ := loopF_inv P step r e1 h2
    exact ⟨e2, h1.trans h3, h4⟩
/-- each turn leaves the slots it needs, whatever the others -/
theorem lcL_map {tg : PD → En → R En} {fe : En → R PD} {en : En} {α : Type} (enc : α → PD) (F : α → PD) (h : ∀ a : α, ∃ e, tg (enc a) en = .ok e ∧ fe e = .ok (F a)) : ∀ l : List α, lcL tg dYes fe en (l.map enc) = .ok (l.map F)
  | [] => rfl
  | a :: r => by
    obtain ⟨e, h1, h2⟩ := h a
    show (tg (enc a) en).bind _ = _
    rw [h1]
    simp only [R.bind_ok, dYes_ap]
    rw [h2]
    simp only [R.bind_ok]
    rw [lcL_map enc F h r]
    rfl
theorem lcL_mapM {tg : PD → En → R En} {fe : En → R PD} {en : En} {α : Type} (enc : α → PD) (F : α → PD) : ∀ l : List α, (∀ a ∈ l, ∃ e, tg (enc a) en = .ok e ∧ fe e = .ok (F a)) → lcL tg dYes fe en (l.map enc) = .ok (l.map F)
  | [], _ => rfl
  | a :: r, h => by
    obtain ⟨e, h1, h2⟩ := h a List.mem_cons_self
    show (tg (enc a) en).bind _ = _
    rw [h1]
    simp only [R.bind_ok, dYes_ap]
    rw [h2]
    simp only [R.bind_ok]
    rw [lcL_mapM enc F r fun a ha => h a (List.mem_cons_of_mem _ ha)]
    rfl
end Dn

namespace Tk
open PySem L2 Dn

def topS (i : Nat) : Stmt := PySem.Challenge.pw_twokeys_k33_whole_runs_stretched.main.body.getD i (.Pass ⟨0, 0, 0, 0⟩)
abbrev s_is_count : Stmt := topS 8
abbrev s_need_unit : Stmt := topS 9
abbrev s_are_runs : Stmt := topS 10
abbrev s_need_runs : Stmt := topS 11
abbrev s_inner : Stmt := topS 14
abbrev s_row_in : Stmt := topS 15
abbrev s_row_heard : Stmt := topS 16
abbrev s_off_by : Stmt := topS 17
abbrev s_off : Stmt := topS 18
abbrev s__law_cell : Stmt := topS 20
abbrev s__law_drawn : Stmt := topS 21
abbrev s__law_tones_first : Stmt := topS 22
abbrev s_law : Stmt := topS 23
structure Ads where
  is_count : Addr
  need_unit : Addr
  are_runs : Addr
  need_runs : Addr
  inner : Addr
  row_in : Addr
  row_heard : Addr
  off_by : Addr
  off : Addr
  _law_cell : Addr
  _law_drawn : Addr
  _law_tones_first : Addr
  law : Addr
structure Fds where
  is_count : FuncData
  need_unit : FuncData
  are_runs : FuncData
  need_runs : FuncData
  inner : FuncData
  row_in : FuncData
  row_heard : FuncData
  off_by : FuncData
  off : FuncData
  _law_cell : FuncData
  _law_drawn : FuncData
  _law_tones_first : FuncData
  law : FuncData
def cv_MOST_UNIT : PD := (.int 9)
def cv_MOST_RUNS : PD := (.int 1000)
def cv_MOST_LONG : PD := (.int 2000)
def kt_NOMINAL : PD := (.tuple [(.int 1), (.int 3)])
def kf_NOMINAL : PD := (.tuple [(.int 1), (.int 3), (.int 7)])
abbrev kv_NOMINAL : PD → R PD := kvB kt_NOMINAL kf_NOMINAL
structure Txt (K : PySem.W.Frag) (mg : Str → Option Value) (cl : Str → Addr) (A : Ads) (D : Fds) : Prop where
  z_abs : mg "abs" = none
  z_any : mg "any" = none
  z_bool : mg "bool" = none
  z_int : mg "int" = none
  z_isinstance : mg "isinstance" = none
  z_len : mg "len" = none
  z_list : mg "list" = none
  z_max : mg "max" = none
  z_min : mg "min" = none
  z_range : mg "range" = none
  z_sum : mg "sum" = none
  z_tuple : mg "tuple" = none
  z_zip : mg "zip" = none
  F_is_count : Fun K "is_count" "is_count" s_is_count A.is_count D.is_count
  g_is_count : mg "is_count" = some (.ref A.is_count)
  b_is_count : Binds K D.is_count ["thing", "low", "high"] []
  F_need_unit : Fun K "need_unit" "need_unit" s_need_unit A.need_unit D.need_unit
  g_need_unit : mg "need_unit" = some (.ref A.need_unit)
  b_need_unit : Binds K D.need_unit ["unit"] []
  F_are_runs : Fun K "are_runs" "are_runs" s_are_runs A.are_runs D.are_runs
  g_are_runs : mg "are_runs" = some (.ref A.are_runs)
  b_are_runs : Binds K D.are_runs ["thing"] []
  F_need_runs : Fun K "need_runs" "need_runs" s_need_runs A.need_runs D.need_runs
  g_need_runs : mg "need_runs" = some (.ref A.need_runs)
  b_need_runs : Binds K D.need_runs ["some"] []
  F_inner : Fun K "inner" "inner" s_inner A.inner D.inner
  g_inner : mg "inner" = some (.ref A.inner)
  b_inner : Binds K D.inner ["some"] []
  F_row_in : Fun K "row_in" "row_in" s_row_in A.row_in D.row_in
  g_row_in : mg "row_in" = some (.ref A.row_in)
  b_row_in : Binds K D.row_in ["some", "unit"] []
  F_row_heard : Fun K "row_heard" "row_heard" s_row_heard A.row_heard D.row_heard
  g_row_heard : mg "row_heard" = some (.ref A.row_heard)
  b_row_heard : Binds K D.row_heard ["some", "unit"] []
  F_off_by : Fun K "off_by" "off_by" s_off_by A.off_by D.off_by
  g_off_by : mg "off_by" = some (.ref A.off_by)
  b_off_by : Binds K D.off_by ["some", "unit"] []
  F_off : Fun K "off" "off" s_off A.off D.off
  g_off : mg "off" = some (.ref A.off)
  b_off : Binds K D.off ["some", "unit"] []
  F__law_cell : Fun K "_law_cell" "_law_cell" s__law_cell A._law_cell D._law_cell
  g__law_cell : mg "_law_cell" = some (.ref A._law_cell)
  b__law_cell : Binds K D._law_cell ["script", "k"] []
  F__law_drawn : Fun K "_law_drawn" "_law_drawn" s__law_drawn A._law_drawn D._law_drawn
  g__law_drawn : mg "_law_drawn" = some (.ref A._law_drawn)
  b__law_drawn : Binds K D._law_drawn ["cell", "k"] []
  F__law_tones_first : Fun K "_law_tones_first" "_law_tones_first" s__law_tones_first A._law_tones_first D._law_tones_first
  g__law_tones_first : mg "_law_tones_first" = some (.ref A._law_tones_first)
  b__law_tones_first : Binds K D._law_tones_first ["more"] []
  F_law : Fun K "law" "law" s_law A.law D.law
  g_law : mg "law" = some (.ref A.law)
  b_law : Binds K D.law ["script"] []
  ge_BadNumber : mg "BadNumber" = some (.ref (cl "BadNumber"))
  x_BadNumber : PySem.W.excIn K (cl "BadNumber") [.type "ValueError", .type "Exception", .type "BaseException", .type "object"] "ValueError.__new__" = true
  k_BadNumber : PySem.W.keepIn K (.ref (cl "BadNumber")) = true
  eb_BadNumber : PySem.W.subIn K (.ref (cl "BadNumber")) (.type "BaseException") = some true
  t_BadNumber : PySem.W.typeIn K (.ref (cl "BadNumber")) = some (.type "type")
  ge_BadRuns : mg "BadRuns" = some (.ref (cl "BadRuns"))
  x_BadRuns : PySem.W.excIn K (cl "BadRuns") [.type "ValueError", .type "Exception", .type "BaseException", .type "object"] "ValueError.__new__" = true
  k_BadRuns : PySem.W.keepIn K (.ref (cl "BadRuns")) = true
  eb_BadRuns : PySem.W.subIn K (.ref (cl "BadRuns")) (.type "BaseException") = some true
  t_BadRuns : PySem.W.typeIn K (.ref (cl "BadRuns")) = some (.type "type")
  c_MOST_UNIT : KC K mg "MOST_UNIT" (.int 9)
  c_MOST_RUNS : KC K mg "MOST_RUNS" (.int 1000)
  c_MOST_LONG : KC K mg "MOST_LONG" (.int 2000)
  k_NOMINAL : KBm K mg "NOMINAL" kt_NOMINAL kf_NOMINAL
theorem Txt.r_MOST_UNIT {K : PySem.W.Frag} {mg : Str → Option Value} {cl : Str → Addr} {A : Ads} {D : Fds} (_ : Txt K mg cl A D) {V0 : V} (h : V0 = (.int 9) := by rfl) : ∀ H, Rp K H V0 cv_MOST_UNIT := fun H => by rw [h]; exact .int _
theorem Txt.r_MOST_RUNS {K : PySem.W.Frag} {mg : Str → Option Value} {cl : Str → Addr} {A : Ads} {D : Fds} (_ : Txt K mg cl A D) {V0 : V} (h : V0 = (.int 1000) := by rfl) : ∀ H, Rp K H V0 cv_MOST_RUNS := fun H => by rw [h]; exact .int _
theorem Txt.r_MOST_LONG {K : PySem.W.Frag} {mg : Str → Option Value} {cl : Str → Addr} {A : Ads} {D : Fds} (_ : Txt K mg cl A D) {V0 : V} (h : V0 = (.int 2000) := by rfl) : ∀ H, Rp K H V0 cv_MOST_LONG := fun H => by rw [h]; exact .int _
def bd_is_count : En → R Fl :=
    (sRet (dAndV (d1 (isiD isIntD) (dVar 0)) (dAndV (d1 notD (d1 (isiD isBoolD) (dVar 0))) (dChain leD leD (dVar 1) (dVar 0) (dVar 2)))))

def dn_is_count : List PD → R PD := runB 3 (sNx bd_is_count)

def bd_need_unit : En → R Fl :=
    (sIf (dNot (dTest (dCall dn_is_count (dCons (dVar 0) (dCons (dC (.int 1)) (dCons (dC cv_MOST_UNIT) dNil)))))) (sRaise "BadNumber") sNil)

def dn_need_unit : List PD → R PD := runB 1 bd_need_unit

def lp_are_runs_1 : En → R Fl :=
    (sSeq (sIf (dOr (dNot (dTest (d1 (isiD isTupD) (dVar 1)))) (dOr (dTest (d2 neD (dN lenD (dCons (dVar 1) dNil)) (dC (.int 2)))) (dNot (dTest (d1 (isiD isBoolD) (d2 ixD (dVar 1) (dC (.int 0)))))))) (sRet (dC (.bool false))) sNil)
    (sIf (dNot (dTest (dCall dn_is_count (dCons (d2 ixD (dVar 1) (dC (.int 1))) (dCons (dC (.int 1)) (dCons (dC cv_MOST_LONG) dNil)))))) (sRet (dC (.bool false))) sNil))

def ce_are_runs_2 : En → R PD :=
    (d2 eqD (d2 ixD (dVar 2) (dC (.int 0))) (d2 ixD (dVar 3) (dC (.int 0))))

def bd_are_runs : En → R Fl :=
    (sSeq (sIf (dOr (dNot (dTest (d1 (isiD isListD) (dVar 0)))) (dTest (d2 gtD (dN lenD (dCons (dVar 0) dNil)) (dC cv_MOST_RUNS)))) (sRet (dC (.bool false))) sNil)
    (sSeq (sFor (dIt asL (dVar 0)) (gN 1) lp_are_runs_1)
    (sRet (d1 notD (dN anyD (dCons (dF (dLc (dItA zip2 (dCons (dSl (dVar 0) dOno (dOso (d1 negD (dC (.int 1))))) (dCons (dSl (dVar 0) (dOso (dC (.int 1))) dOno) dNil))) (gT 2 (gCn (gN 2) (gCn (gN 3) gNl))) dYes ce_are_runs_2 [2, 3])) dNil))))))

def dn_are_runs : List PD → R PD := runB 4 (sNx bd_are_runs)

def bd_need_runs : En → R Fl :=
    (sIf (dNot (dTest (dCall dn_are_runs (dCons (dVar 0) dNil)))) (sRaise "BadRuns") sNil)

def dn_need_runs : List PD → R PD := runB 1 bd_need_runs

def bd_inner : En → R Fl :=
    (sSeq (sAsg 1 (dN intD (dCons (dAndV (d2 neD (dVar 0) (dN mkL dNil)) (d1 notD (d2 ixD (d2 ixD (dVar 0) (dC (.int 0))) (dC (.int 0))))) dNil)))
    (sSeq (sAsg 2 (d2 subD (dN lenD (dCons (dVar 0) dNil)) (dN intD (dCons (dAndV (d2 gtD (dN lenD (dCons (dVar 0) dNil)) (dVar 1)) (d1 notD (d2 ixD (d2 ixD (dVar 0) (d1 negD (dC (.int 1)))) (dC (.int 0))))) dNil))))
    (sRet (dSl (dVar 0) (dOso (dVar 1)) (dOso (dVar 2))))))

def dn_inner : List PD → R PD := runB 3 (sNx bd_inner)

def lp_row_in_1 : En → R Fl :=
    (sIf (dTest (dVar 3)) (sAsg 2 (d2 addD (dVar 2) (dIf (dTest (d2 ltD (dVar 4) (d2 mulD (dC (.int 2)) (dVar 1)))) (dC (.str ".")) (dC (.str "-"))))) (sIf (dTest (d2 geD (dVar 4) (d2 mulD (dC (.int 5)) (dVar 1)))) (sAsg 2 (d2 addD (dVar 2) (dC (.str " / ")))) (sIf (dTest (d2 geD (dVar 4) (d2 mulD (dC (.int 2)) (dVar 1)))) (sAsg 2 (d2 addD (dVar 2) (dC (.str " ")))) sNil)))

def bd_row_in : En → R Fl :=
    (sSeq (sAsg 2 (dC (.str "")))
    (sSeq (sFor (dIt asL (dCall dn_inner (dCons (dVar 0) dNil))) (gT 2 (gCn (gN 3) (gCn (gN 4) gNl))) lp_row_in_1)
    (sRet (dVar 2))))

def dn_row_in : List PD → R PD := runB 5 (sNx bd_row_in)

def bd_row_heard : En → R Fl :=
    (sSeq (sDrop (dCall dn_need_runs (dCons (dVar 0) dNil)))
    (sSeq (sDrop (dCall dn_need_unit (dCons (dVar 1) dNil)))
    (sRet (dCall dn_row_in (dCons (dVar 0) (dCons (dVar 1) dNil))))))

def dn_row_heard : List PD → R PD := runB 2 bd_row_heard

def ce_off_by_1 : En → R PD :=
    (dN absD (dCons (d2 subD (dVar 3) (d2 mulD (dVar 4) (dVar 1))) dNil))

def ce_off_by_2 : En → R PD :=
    (dN minD (dCons (dF (dLc (dIt asT (d1 kv_NOMINAL (dVar 2))) (gN 4) dYes ce_off_by_1 [4])) dNil))

def bd_off_by : En → R Fl :=
    (sRet (dN sumD (dCons (dF (dLc (dIt asL (dCall dn_inner (dCons (dVar 0) dNil))) (gT 2 (gCn (gN 2) (gCn (gN 3) gNl))) dYes ce_off_by_2 [2, 3])) dNil)))

def dn_off_by : List PD → R PD := runB 5 (sNx bd_off_by)

def bd_off : En → R Fl :=
    (sSeq (sDrop (dCall dn_need_runs (dCons (dVar 0) dNil)))
    (sSeq (sDrop (dCall dn_need_unit (dCons (dVar 1) dNil)))
    (sRet (dCall dn_off_by (dCons (dVar 0) (dCons (dVar 1) dNil))))))

def dn_off : List PD → R PD := runB 2 bd_off

def bd__law_drawn : En → R Fl :=
    (sSeq (sAsg 2 (d2 modD (d2 addD (d2 mulD (dVar 0) (dC (.int 6364136223846793005))) (d2 mulD (d2 addD (dVar 1) (dC (.int 1))) (dC (.int 1442695040888963407)))) (dC (.int 340282366920938463463374607431768211507))))
    (sSeq (sAsg 2 (d2 modD (d2 mulD (dVar 2) (dVar 2)) (dC (.int 340282366920938463463374607431768211297))))
    (sSeq (sAsg 2 (d2 mulD (d2 mulD (d2 addD (d2 modD (dVar 2) (dC (.int 18446744073709551557))) (dC (.int 1))) (d2 addD (d2 fdivD (dVar 2) (dC (.int 18446744073709551557))) (dC (.int 1)))) (dVar 2)))
    (sRet (d2 modD (dVar 2) (dC (.int 340282366920938463463374607431768211507)))))))

def dn__law_drawn : List PD → R PD := runB 3 (sNx bd__law_drawn)

def lp__law_tones_first_1 : En → R Fl :=
    (sSeq (sAsg 3 (dCall dn__law_drawn (dCons (dVar 0) (dCons (dVar 2) dNil))))
    (sApp 1 (dN mkT (dCons (d2 eqD (d2 modD (dVar 2) (dC (.int 2))) (dC (.int 0))) (dCons (d2 addD (dC (.int 1)) (d2 modD (d2 fdivD (dVar 3) (dC (.int 8))) (d2 ixD (dN mkL (dCons (dC (.int 4)) (dCons (dC (.int 12)) (dCons (dC (.int 40)) dNil)))) (d2 modD (d2 fdivD (dVar 3) (dC (.int 512))) (dC (.int 3)))))) dNil)))))

def bd__law_tones_first : En → R Fl :=
    (sSeq (sAsgF 1 (dLst dNil))
    (sSeq (sFor (dItA rng1 (dCons (d2 addD (dC (.int 1)) (d2 mulD (dC (.int 2)) (d2 modD (dVar 0) (dC (.int 6))))) dNil)) (gN 2) lp__law_tones_first_1)
    (sRet (dVarL 1))))

def dn__law_tones_first : List PD → R PD := runB 4 (sNx bd__law_tones_first)

def ce_law_1 : En → R PD :=
    (dN mkT (dCons (dVar 14) (dCons (d2 mulD (dVar 15) (dVar 7)) dNil)))

def lp_law_2 : En → R Fl :=
    (sIf (dTest (d2 ltD (d2 mulD (dVar 5) (dVar 7)) (dC (.int 10)))) (sSeq (sAsg 8 (dF (dLc (dIt asL (dVar 3)) (gT 2 (gCn (gN 14) (gCn (gN 15) gNl))) dYes ce_law_1 [14, 15])))
    (sIf (dOr (dTest (d2 neD (dCall dn_row_heard (dCons (dVar 8) (dCons (d2 mulD (dVar 5) (dVar 7)) dNil))) (dVar 6))) (dTest (d2 neD (dCall dn_off (dCons (dVar 8) (dCons (d2 mulD (dVar 5) (dVar 7)) dNil))) (d2 mulD (dVar 7) (dCall dn_off (dCons (dVar 3) (dCons (dVar 5) dNil))))))) (sRet (dC (.bool false))) sNil)) sNil)

def lp_law_3 : En → R Fl :=
    (sIf (dTest (d2 neD (dCall dn_row_heard (dCons (d2 addD (d2 addD (dVar 3) (dN mkL (dCons (dN mkT (dCons (dC (.bool false)) (dCons (dVar 12) dNil))) dNil))) (dVar 4)) (dCons (dVar 5) dNil))) (d2 addD (d2 addD (dVar 6) (dVar 13)) (dCall dn_row_heard (dCons (dVar 4) (dCons (dVar 5) dNil)))))) (sRet (dC (.bool false))) sNil)

def lp_law_4 : En → R Fl :=
    (sSeq (sAsg 6 (dCall dn_row_heard (dCons (dVar 3) (dCons (dVar 5) dNil))))
    (sSeq (sFor (dIt asL (dN mkL (dCons (dC (.int 2)) (dCons (dC (.int 3)) dNil)))) (gN 7) lp_law_2)
    (sSeq (sAsg 9 (d2 addD (d2 addD (dN mkL (dCons (dN mkT (dCons (dC (.bool false)) (dCons (d2 addD (dC (.int 1)) (d2 modD (d2 fdivD (dVar 2) (dC (.int 64))) (dC (.int 50)))) dNil))) dNil)) (dVar 3)) (dN mkL (dCons (dN mkT (dCons (dC (.bool false)) (dCons (d2 addD (dC (.int 1)) (d2 modD (d2 fdivD (dVar 2) (dC (.int 4096))) (dC (.int 50)))) dNil))) dNil))))
    (sSeq (sIf (dOr (dTest (d2 neD (dCall dn_row_heard (dCons (dVar 9) (dCons (dVar 5) dNil))) (dVar 6))) (dTest (d2 neD (dCall dn_off (dCons (dVar 9) (dCons (dVar 5) dNil))) (dCall dn_off (dCons (dVar 3) (dCons (dVar 5) dNil)))))) (sRet (dC (.bool false))) sNil)
    (sSeq (sIf (dTest (d2 neD (dCall dn_row_heard (dCons (d1 revD (dVar 3)) (dCons (dVar 5) dNil))) (d1 revD (dVar 6)))) (sRet (dC (.bool false))) sNil)
    (sSeq (sAsg 10 (dN mkL (dCons (d2 subD (d2 mulD (dC (.int 2)) (dVar 5)) (dC (.int 1))) (dCons (d2 mulD (dC (.int 2)) (dVar 5)) (dCons (d2 subD (d2 mulD (dC (.int 5)) (dVar 5)) (dC (.int 1))) (dCons (d2 mulD (dC (.int 5)) (dVar 5)) (dCons (dC (.int 2000)) dNil)))))))
    (sSeq (sAsg 11 (dN mkL (dCons (dC (.str "")) (dCons (dC (.str " ")) (dCons (dC (.str " ")) (dCons (dC (.str " / ")) (dCons (dC (.str " / ")) dNil)))))))
    (sFor (dItA zip2 (dCons (dVar 10) (dCons (dVar 11) dNil))) (gT 2 (gCn (gN 12) (gCn (gN 13) gNl))) lp_law_3))))))))

def lp_law_5 : En → R Fl :=
    (sSeq (sAsg 2 (dCall dn__law_drawn (dCons (dCell 0 (dVar 1)) (dCons (dVar 1) dNil))))
    (sSeq (sPar 3 4 (dCons (dCall dn__law_tones_first (dCons (dCall dn__law_drawn (dCons (dVar 2) (dCons (dC (.int 1)) dNil))) dNil)) (dCons (dCall dn__law_tones_first (dCons (dCall dn__law_drawn (dCons (dVar 2) (dCons (dC (.int 2)) dNil))) dNil)) dNil)))
    (sFor (dItA rng2 (dCons (dC (.int 1)) (dCons (dC (.int 10)) dNil))) (gN 5) lp_law_4)))

def bd_law : En → R Fl :=
    (sSeq (sFor (dItA rng1 (dCons (dN max2D (dCons (dC (.int 1)) (dCons (dN minD (dCons (dC (.int 4)) (dCons (dLenR 0) dNil))) dNil))) dNil)) (gN 1) lp_law_5)
    (sRet (dC (.bool true))))

section
variable {P : Program} {w : World} {K : PySem.W.Frag} {mg : Str → Option Value} {base : Heap} {cl : Str → Addr} {A : Ads} {D : Fds}
theorem sc_is_count : FnScope ["thing", "low", "high"] ["thing", "low", "high"] (defScope s_is_count) := ⟨rfl, rfl, rfl, by decide +kernel, rfl, by decide +kernel, by decide +kernel⟩
theorem ok_is_count (T : Txt K mg cl A D) : FnOk P w K mg base (L2.CX P w) 1 A.is_count D.is_count ["thing", "low", "high"] (spF K cl 3 dn_is_count) := by
  refine def_ok (k := 0) T.F_is_count sc_is_count fun cdv A' outer s H E hr => ⟨_, (PSs.nox (pss_one (ps_ret (pe_and (pe_callB (kx_isi K rfl) (by rfl) T.z_isinstance (by decide +kernel) (pa_cons (pv 0) (pa_cons (pe_bltn (v := .ty "int") (by rfl) T.z_int (by decide +kernel) rfl) pa_nil))) (pe_and (pe_not (pe_callB (kx_isi K rfl) (by rfl) T.z_isinstance (by decide +kernel) (pa_cons (pv 0) (pa_cons (pe_bltn (v := .ty "bool") (by rfl) T.z_bool (by decide +kernel) rfl) pa_nil)))) (pe_one (pe_chain op_le op_le (pv 1) (pv 0) (pv 2)))))))), ?_⟩
  exact (es_nox (es_ret ((ed_andV ((ed_isi kit_int ((ed_var 0)).l)).l (ed_andV ((ed_notV ((ed_isi kit_bool ((ed_var 0)).l)).l)).l (ed_chain o_le o_le ((ed_var 1)).l ((ed_var 0)).l ((ed_var 2)).l)))).l))

theorem sc_need_unit : FnScope ["unit"] ["unit"] (defScope s_need_unit) := ⟨rfl, rfl, rfl, by decide +kernel, rfl, by decide +kernel, by decide +kernel⟩
theorem ok_need_unit (T : Txt K mg cl A D) : FnOk P w K mg base (L2.CX P w) 2 A.need_unit D.need_unit ["unit"] (spF K cl 1 dn_need_unit) := by
  refine def_ok (k := 1) T.F_need_unit sc_need_unit fun cdv A' outer s H E hr => ⟨_, (pss_one (ps_if (pt_not (pt_val (pe_call (ok_is_count (K := K) T) (hr.mono (by decide)) (by rfl) T.g_is_count T.F_is_count.kp T.b_is_count .nil (passes_call (takes_of rfl rfl rfl rfl) fun _ _ _ _ h => h) (pa_cons (pv 0) (pa_cons pe_int (pa_cons (kpe_c K T.c_MOST_UNIT rfl rfl) pa_nil)))))) (pss_one (ps_raise rfl (takes_of rfl rfl rfl rfl) (pmk_own PySem.F.excBase_ValueError T.x_BadNumber T.ge_BadNumber T.k_BadNumber (raises_own T.eb_BadNumber T.t_BadNumber) rfl))) pss_nil)), ?_⟩
  exact (es_if (et_not (et_B ((ed_call (hn_cons (hn_cons (hn_cons hn_nil))) (ea_cons (ed_var 0) (ea_cons (ed_int 1) (ea_cons (ed_k T.r_MOST_UNIT) ea_nil))))).l)) (es_raise "BadNumber") es_nil)

theorem sc_are_runs : FnScope ["thing", "run", "one", "other"] ["thing"] (defScope s_are_runs) := ⟨rfl, rfl, rfl, by decide +kernel, rfl, by decide +kernel, by decide +kernel⟩
theorem ok_are_runs (T : Txt K mg cl A D) : FnOk P w K mg base (L2.CX P w) 2 A.are_runs D.are_runs ["thing"] (spF K cl 1 dn_are_runs) := by
  refine def_ok (k := 1) T.F_are_runs sc_are_runs fun cdv A' outer s H E hr => ⟨_, (PSs.nox (pss_cons (ps_if (PW.pt (pw_or (pt_not (pt_val (pe_callB (kx_isi K rfl) (by rfl) T.z_isinstance (by decide +kernel) (pa_cons (pv 0) (pa_cons (pe_bltn (v := .ty "list") (by rfl) T.z_list (by decide +kernel) rfl) pa_nil))))) (pw_or1 (pt_cmpR op_gt (pe_callB (kx_len K rfl) (by rfl) T.z_len (by decide +kernel) (pa_cons (pv 0) pa_nil)) (kpe_c K T.c_MOST_RUNS rfl rfl) (nomark _))))) (pss_one (ps_ret pe_bl)) pss_nil)
      (pss_cons (ps_for PassesOwn.never rfl (kpi_list K rfl (pv 0)) (pg_name (i := 1) sc_are_runs.nd rfl (.inl rfl)) (pss_cons (ps_if (PW.pt (pw_or (pt_not (pt_val (pe_callB (kx_isi K rfl) (by rfl) T.z_isinstance (by decide +kernel) (pa_cons (pv 1) (pa_cons (pe_bltn (v := .ty "tuple") (by rfl) T.z_tuple (by decide +kernel) rfl) pa_nil))))) (pw_or (pt_cmpR (kx_ne K rfl hr.units) (pe_callB (kx_len K rfl) (by rfl) T.z_len (by decide +kernel) (pa_cons (pv 1) pa_nil)) pe_int (nomark _)) (pw_or1 (pt_not (pt_val (pe_callB (kx_isi K rfl) (by rfl) T.z_isinstance (by decide +kernel) (pa_cons (pe_ix (kx_ix K rfl) (pv 1) pe_int (fun _ _ => rfl)) (pa_cons (pe_bltn (v := .ty "bool") (by rfl) T.z_bool (by decide +kernel) rfl) pa_nil))))))))) (pss_one (ps_ret pe_bl)) pss_nil)
      (pss_one (ps_if (pt_not (pt_val (pe_call (ok_is_count (K := K) T) (hr.mono (by decide)) (by rfl) T.g_is_count T.F_is_count.kp T.b_is_count .nil passL (pa_cons (pe_ix (kx_ix K rfl) (pv 1) pe_int (fun _ _ => rfl)) (pa_cons pe_int (pa_cons (kpe_c K T.c_MOST_LONG rfl rfl) pa_nil)))))) (pss_one (ps_ret pe_bl)) pss_nil))))
      (pss_one (ps_ret (pe_not (pe_callB (kx_any K rfl rfl) (by rfl) T.z_any (by decide +kernel) (pa_cons (pe_lc (own := [("one", 2), ("other", 3)]) rfl sc_are_runs.nd (kpi_zip K rfl (by rfl) T.z_zip (pa_cons (pe_slice (kx_sl K rfl) (pv 0) po_none (po_some (pe_un un_neg pe_int))) (pa_cons (pe_slice (kx_sl K rfl) (pv 0) (po_some pe_int) po_none) pa_nil))) (blkOk_by (N := ["thing", "run", "one", "other"]) (sc := defScope s_are_runs) (own := [("one", 2), ("other", 3)]) (by decide +kernel)) (fun _ _ _ _ _ => (kpg_tup (n := 2) K rfl rfl (pgs_cons (pg_name (i := 2) sc_are_runs.nd rfl (.inl rfl)) (pgs_cons (pg_name (i := 3) sc_are_runs.nd rfl (.inl rfl)) pgs_nil)))) (fun _ _ _ _ _ => pts_nil) (fun _ _ _ _ _ => (pe_cmpR (kx_eq K rfl hr.units) (pe_ix (kx_ix K rfl) (pv 2) pe_int (fun _ _ => rfl)) (pe_ix (kx_ix K rfl) (pv 3) pe_int (fun _ _ => rfl)) (nomark _)))) pa_nil)))))))), ?_⟩
  exact (es_nox (es_seq (es_if (et_or (et_not (et_B ((ed_isi kit_list ((ed_var 0)).l)).l)) (et_test ((ed_op o_gt ((ed_cb n_len (eb_cons ((ed_var 0)).l eb_nil))).l ((ed_k T.r_MOST_RUNS)).l)).l)) (es_ret ((ed_bl false)).l) es_nil)
      (es_seq (es_for (ei_list (ed_var 0)) (ek_name 1) (es_seq (es_if (et_or (et_not (et_B ((ed_isi kit_tuple ((ed_var 1)).l)).l)) (et_or (et_test ((ed_op o_ne ((ed_cb n_len (eb_cons ((ed_var 1)).l eb_nil))).l ((ed_int 2)).l)).l) (et_not (et_B ((ed_isi kit_bool ((ed_op o_ix ((ed_var 1)).l ((ed_int 0)).l)).l)).l)))) (es_ret ((ed_bl false)).l) es_nil)
      (es_if (et_not (et_B ((ed_call (hn_cons (hn_cons (hn_cons hn_nil))) (ea_cons (ed_op o_ix ((ed_var 1)).l ((ed_int 1)).l) (ea_cons (ed_int 1) (ea_cons (ed_k T.r_MOST_LONG) ea_nil))))).l)) (es_ret ((ed_bl false)).l) es_nil)))
      (es_ret ((ed_notV ((ed_cb n_any (eb_cons (((ef_lc (vs := [2, 3]) (ei_zip (ea_cons (ed_sl ((ed_var 0)).l eo_none (eo_some ((ed_un o_neg ((ed_int 1)).l)).l)) (ea_cons (ed_sl ((ed_var 0)).l (eo_some ((ed_int 1)).l) eo_none) ea_nil))) (ek_tup (ek_cons (ek_name 2) (ek_cons (ek_name 3) ek_nil))) et_yes (ed_op o_eq ((ed_op o_ix ((ed_var 2)).l ((ed_int 0)).l)).l ((ed_op o_ix ((ed_var 3)).l ((ed_int 0)).l)).l) (by decide))).s).l eb_nil))).l)).l))))

theorem sc_need_runs : FnScope ["some"] ["some"] (defScope s_need_runs) := ⟨rfl, rfl, rfl, by decide +kernel, rfl, by decide +kernel, by decide +kernel⟩
theorem ok_need_runs (T : Txt K mg cl A D) : FnOk P w K mg base (L2.CX P w) 3 A.need_runs D.need_runs ["some"] (spF K cl 1 dn_need_runs) := by
  refine def_ok (k := 2) T.F_need_runs sc_need_runs fun cdv A' outer s H E hr => ⟨_, (pss_one (ps_if (pt_not (pt_val (pe_call (ok_are_runs (K := K) T) (hr.mono (by decide)) (by rfl) T.g_are_runs T.F_are_runs.kp T.b_are_runs .nil (passes_call (takes_of rfl rfl rfl rfl) fun _ _ _ _ h => h) (pa_cons (pv 0) pa_nil)))) (pss_one (ps_raise rfl (takes_of rfl rfl rfl rfl) (pmk_own PySem.F.excBase_ValueError T.x_BadRuns T.ge_BadRuns T.k_BadRuns (raises_own T.eb_BadRuns T.t_BadRuns) rfl))) pss_nil)), ?_⟩
  exact (es_if (et_not (et_B ((ed_call (hn_cons hn_nil) (ea_cons (ed_var 0) ea_nil))).l)) (es_raise "BadRuns") es_nil)

theorem sc_inner : FnScope ["some", "first", "behind"] ["some"] (defScope s_inner) := ⟨rfl, rfl, rfl, by decide +kernel, rfl, by decide +kernel, by decide +kernel⟩
theorem ok_inner (T : Txt K mg cl A D) : FnOk P w K mg base (L2.CX P w) 1 A.inner D.inner ["some"] (spF K cl 1 dn_inner) := by
  refine def_ok (k := 0) T.F_inner sc_inner fun cdv A' outer s H E hr => ⟨_, (PSs.nox (pss_cons (ps_set (i := 1) sc_inner.nd rfl (.inl rfl) (pe_callTy c_int (by rfl) T.z_int (by decide +kernel) (pa_cons (pe_and (pe_cmpR (kx_ne K rfl hr.units) (pv 0) (pe_lst pa_nil) (nomark _)) (pe_one (pe_not (pe_ix (kx_ix K rfl) (pe_ix (kx_ix K rfl) (pv 0) pe_int (fun _ _ => rfl)) pe_int (fun _ _ => rfl))))) pa_nil)))
      (pss_cons (ps_set (i := 2) sc_inner.nd rfl (.inl rfl) (pe_op op_sub (pe_callB (kx_len K rfl) (by rfl) T.z_len (by decide +kernel) (pa_cons (pv 0) pa_nil)) (pe_callTy c_int (by rfl) T.z_int (by decide +kernel) (pa_cons (pe_and (pe_cmpR op_gt (pe_callB (kx_len K rfl) (by rfl) T.z_len (by decide +kernel) (pa_cons (pv 0) pa_nil)) (pv 1) (nomark _)) (pe_one (pe_not (pe_ix (kx_ix K rfl) (pe_ix (kx_ix K rfl) (pv 0) (pe_un un_neg pe_int) (fun _ _ => rfl)) pe_int (fun _ _ => rfl))))) pa_nil))))
      (pss_one (ps_ret (pe_slice (kx_sl K rfl) (pv 0) (po_some (pv 1)) (po_some (pv 2)))))))), ?_⟩
  exact (es_nox (es_seq (es_asg (ed_cb n_int (eb_cons ((ed_andV ((ed_op o_ne ((ed_var 0)).l ((ed_lst ea_nil)).l)).l (ed_notV ((ed_op o_ix ((ed_op o_ix ((ed_var 0)).l ((ed_int 0)).l)).l ((ed_int 0)).l)).l))).l eb_nil)))
      (es_seq (es_asg (ed_op o_sub ((ed_cb n_len (eb_cons ((ed_var 0)).l eb_nil))).l ((ed_cb n_int (eb_cons ((ed_andV ((ed_op o_gt ((ed_cb n_len (eb_cons ((ed_var 0)).l eb_nil))).l ((ed_var 1)).l)).l (ed_notV ((ed_op o_ix ((ed_op o_ix ((ed_var 0)).l ((ed_un o_neg ((ed_int 1)).l)).l)).l ((ed_int 0)).l)).l))).l eb_nil))).l))
      (es_ret ((ed_sl ((ed_var 0)).l (eo_some ((ed_var 1)).l) (eo_some ((ed_var 2)).l))).l))))

theorem sc_row_in : FnScope ["some", "unit", "found", "is_tone", "ticks"] ["some", "unit"] (defScope s_row_in) := ⟨rfl, rfl, rfl, by decide +kernel, rfl, by decide +kernel, by decide +kernel⟩
theorem ok_row_in (T : Txt K mg cl A D) : FnOk P w K mg base (L2.CX P w) 2 A.row_in D.row_in ["some", "unit"] (spF K cl 2 dn_row_in) := by
  refine def_ok (k := 1) T.F_row_in sc_row_in fun cdv A' outer s H E hr => ⟨_, (PSs.nox (pss_cons (ps_set (i := 2) sc_row_in.nd rfl (.inl rfl) pe_str)
      (pss_cons (ps_for PassesOwn.never rfl (kpi_list K rfl (pe_call (ok_inner (K := K) T) (hr.mono (by decide)) (by rfl) T.g_inner T.F_inner.kp T.b_inner .nil passL (pa_cons (pv 0) pa_nil))) (kpg_tup (n := 2) K rfl rfl (pgs_cons (pg_name (i := 3) sc_row_in.nd rfl (.inl rfl)) (pgs_cons (pg_name (i := 4) sc_row_in.nd rfl (.inl rfl)) pgs_nil))) (pss_one (ps_if (pt_val (pv 3)) (pss_one (ps_set (i := 2) sc_row_in.nd rfl (.inl rfl) (pe_op op_addD (pv 2) (pe_ifExp (pt_cmpR op_lt (pv 4) (pe_op op_mulD pe_int (pv 1)) (nomark _)) pe_str pe_str)))) (pss_one (ps_if (pt_cmpR op_ge (pv 4) (pe_op op_mulD pe_int (pv 1)) (nomark _)) (pss_one (ps_set (i := 2) sc_row_in.nd rfl (.inl rfl) (pe_op op_addD (pv 2) pe_str))) (pss_one (ps_if (pt_cmpR op_ge (pv 4) (pe_op op_mulD pe_int (pv 1)) (nomark _)) (pss_one (ps_set (i := 2) sc_row_in.nd rfl (.inl rfl) (pe_op op_addD (pv 2) pe_str))) pss_nil)))))))
      (pss_one (ps_ret (pv 2)))))), ?_⟩
  exact (es_nox (es_seq (es_asg (ed_str ""))
      (es_seq (es_for (ei_list (ed_call (hn_cons hn_nil) (ea_cons (ed_var 0) ea_nil))) (ek_tup (ek_cons (ek_name 3) (ek_cons (ek_name 4) ek_nil))) (es_if (et_B ((ed_var 3)).l) (es_asg (ed_op o_add ((ed_var 2)).l ((ed_if (et_test ((ed_op o_lt ((ed_var 4)).l ((ed_op o_mul ((ed_int 2)).l ((ed_var 1)).l)).l)).l) (ed_str ".") (ed_str "-"))).l)) (es_if (et_test ((ed_op o_ge ((ed_var 4)).l ((ed_op o_mul ((ed_int 5)).l ((ed_var 1)).l)).l)).l) (es_asg (ed_op o_add ((ed_var 2)).l ((ed_str " / ")).l)) (es_if (et_test ((ed_op o_ge ((ed_var 4)).l ((ed_op o_mul ((ed_int 2)).l ((ed_var 1)).l)).l)).l) (es_asg (ed_op o_add ((ed_var 2)).l ((ed_str " ")).l)) es_nil))))
      (es_ret ((ed_var 2)).l))))

theorem sc_row_heard : FnScope ["some", "unit"] ["some", "unit"] (defScope s_row_heard) := ⟨rfl, rfl, rfl, by decide +kernel, rfl, by decide +kernel, by decide +kernel⟩
theorem ok_row_heard (T : Txt K mg cl A D) : FnOk P w K mg base (L2.CX P w) 4 A.row_heard D.row_heard ["some", "unit"] (spF K cl 2 dn_row_heard) := by
  refine def_ok (k := 3) T.F_row_heard sc_row_heard fun cdv A' outer s H E hr => ⟨_, (pss_cons (ps_expr (pe_call (ok_need_runs (K := K) T) (hr.mono (by decide)) (by rfl) T.g_need_runs T.F_need_runs.kp T.b_need_runs .nil (passes_call (takes_of rfl rfl rfl rfl) fun _ _ _ _ h => h) (pa_cons (pv 0) pa_nil)))
      (pss_cons (ps_expr (pe_call (ok_need_unit (K := K) T) (hr.mono (by decide)) (by rfl) T.g_need_unit T.F_need_unit.kp T.b_need_unit .nil (passes_call (takes_of rfl rfl rfl rfl) fun _ _ _ _ h => h) (pa_cons (pv 1) pa_nil)))
      (pss_one (ps_ret (pe_call (ok_row_in (K := K) T) (hr.mono (by decide)) (by rfl) T.g_row_in T.F_row_in.kp T.b_row_in .nil (passes_call (takes_of rfl rfl rfl rfl) fun _ _ _ _ h => h) (pa_cons (pv 0) (pa_cons (pv 1) pa_nil))))))), ?_⟩
  exact (es_seq (es_drop ((ed_call (hn_cons hn_nil) (ea_cons (ed_var 0) ea_nil))).l)
      (es_seq (es_drop ((ed_call (hn_cons hn_nil) (ea_cons (ed_var 1) ea_nil))).l)
      (es_ret ((ed_call (hn_cons (hn_cons hn_nil)) (ea_cons (ed_var 0) (ea_cons (ed_var 1) ea_nil)))).l)))

theorem sc_off_by : FnScope ["some", "unit", "is_tone", "ticks", "units"] ["some", "unit"] (defScope s_off_by) := ⟨rfl, rfl, rfl, by decide +kernel, rfl, by decide +kernel, by decide +kernel⟩
theorem ok_off_by (T : Txt K mg cl A D) : FnOk P w K mg base (L2.CX P w) 2 A.off_by D.off_by ["some", "unit"] (spF K cl 2 dn_off_by) := by
  refine def_ok (k := 1) T.F_off_by sc_off_by fun cdv A' outer s H E hr => ⟨_, (PSs.nox (pss_one (ps_ret (pe_callB (kx_sum K rfl rfl) (by rfl) T.z_sum (by decide +kernel) (pa_cons (pe_lc (own := [("is_tone", 2), ("ticks", 3)]) rfl sc_off_by.nd (kpi_list K rfl (pe_call (ok_inner (K := K) T) (hr.mono (by decide)) (by rfl) T.g_inner T.F_inner.kp T.b_inner .nil passL (pa_cons (pv 0) pa_nil))) (blkOk_by (N := ["some", "unit", "is_tone", "ticks", "units"]) (sc := defScope s_off_by) (own := [("is_tone", 2), ("ticks", 3)]) (by decide +kernel)) (fun _ _ _ _ _ => (kpg_tup (n := 2) K rfl rfl (pgs_cons (pg_name (i := 2) sc_off_by.nd rfl (.inl rfl)) (pgs_cons (pg_name (i := 3) sc_off_by.nd rfl (.inr rfl)) pgs_nil)))) (fun _ _ _ _ _ => pts_nil) (fun _ _ _ _ _ => (pe_callB (kx_min K rfl rfl) (by rfl) T.z_min (by decide +kernel) (pa_cons (pe_lc (own := [("units", 4)]) rfl sc_off_by.nd (kpi_tup K rfl (kpe_kb K T.k_NOMINAL rfl rfl rfl (pv 2) (fun _ _ => rfl))) (blkOk_by (by (show blkC ["some", "unit", "is_tone", "ticks", "units"] (relS _ (defScope s_off_by)) _ [("units", 4)] = true); decide +kernel)) (fun _ _ _ _ _ => (pg_name (i := 4) sc_off_by.nd rfl (.inl rfl))) (fun _ _ _ _ _ => pts_nil) (fun _ _ _ _ _ => (pe_callB c_abs (by rfl) T.z_abs (by decide +kernel) (pa_cons (pe_op op_sub (pv 3) (pe_op op_mulD (pv 4) (pv 1))) pa_nil)))) pa_nil)))) pa_nil))))), ?_⟩
  exact (es_nox (es_ret ((ed_cb n_sum (eb_cons (((ef_lc (vs := [2, 3]) (ei_list (ed_call (hn_cons hn_nil) (ea_cons (ed_var 0) ea_nil))) (ek_tup (ek_cons (ek_name 2) (ek_cons (ek_name 3) ek_nil))) et_yes (ed_cb n_min (eb_cons (((ef_lc (vs := [4]) (ei_tup (ed_kb ((ed_var 2)).l)) (ek_name 4) et_yes (ed_cb n_abs (eb_cons ((ed_op o_sub ((ed_var 3)).l ((ed_op o_mul ((ed_var 4)).l ((ed_var 1)).l)).l)).l eb_nil)) (by decide))).s).l eb_nil)) (by decide))).s).l eb_nil))).l))

theorem sc_off : FnScope ["some", "unit"] ["some", "unit"] (defScope s_off) := ⟨rfl, rfl, rfl, by decide +kernel, rfl, by decide +kernel, by decide +kernel⟩
theorem ok_off (T : Txt K mg cl A D) : FnOk P w K mg base (L2.CX P w) 4 A.off D.off ["some", "unit"] (spF K cl 2 dn_off) := by
  refine def_ok (k := 3) T.F_off sc_off fun cdv A' outer s H E hr => ⟨_, (pss_cons (ps_expr (pe_call (ok_need_runs (K := K) T) (hr.mono (by decide)) (by rfl) T.g_need_runs T.F_need_runs.kp T.b_need_runs .nil (passes_call (takes_of rfl rfl rfl rfl) fun _ _ _ _ h => h) (pa_cons (pv 0) pa_nil)))
      (pss_cons (ps_expr (pe_call (ok_need_unit (K := K) T) (hr.mono (by decide)) (by rfl) T.g_need_unit T.F_need_unit.kp T.b_need_unit .nil (passes_call (takes_of rfl rfl rfl rfl) fun _ _ _ _ h => h) (pa_cons (pv 1) pa_nil)))
      (pss_one (ps_ret (pe_call (ok_off_by (K := K) T) (hr.mono (by decide)) (by rfl) T.g_off_by T.F_off_by.kp T.b_off_by .nil (passes_call (takes_of rfl rfl rfl rfl) fun _ _ _ _ h => h) (pa_cons (pv 0) (pa_cons (pv 1) pa_nil))))))), ?_⟩
  exact (es_seq (es_drop ((ed_call (hn_cons hn_nil) (ea_cons (ed_var 0) ea_nil))).l)
      (es_seq (es_drop ((ed_call (hn_cons hn_nil) (ea_cons (ed_var 1) ea_nil))).l)
      (es_ret ((ed_call (hn_cons (hn_cons hn_nil)) (ea_cons (ed_var 0) (ea_cons (ed_var 1) ea_nil)))).l)))

theorem sc__law_cell : FnScope ["script", "k"] ["script", "k"] (defScope s__law_cell) := ⟨rfl, rfl, rfl, by decide +kernel, rfl, by decide +kernel, by decide +kernel⟩
theorem ok__law_cell (T : Txt K mg cl A D) : FnOk P w K mg base (L2.CX P w) 1 A._law_cell D._law_cell ["script", "k"] (Dn.spCell K) := by
  refine T.F__law_cell.okX (k := 0) sc__law_cell (fun vs H Q E ⟨_, _, _, h, _⟩ => by rw [h]; rfl) (fun cdv A' outer s H vs Q E hr h => ⟨tCellB K, ?_, cell_reads h⟩)
  exact pss_cons (ps_if (pt_cmpR (op_eqA hr.units) (pv 0) (pe_lst pa_nil) (nomark _)) (pss_one (ps_ret (pe_op op_mulD (pv 1) pe_int))) pss_nil)
    (pss_one (ps_ret (pe_op op_addD (pe_ix ix_seq (pv 0) (pe_op op_mod (pv 1) (pe_callB c_len (by rfl) T.z_len (by decide +kernel) (pa_cons (pv 0) pa_nil))) (fun _ _ => rfl)) (pe_op op_mulD (pe_op op_fdivW (pv 1) (pe_callB c_len (by rfl) T.z_len (by decide +kernel) (pa_cons (pv 0) pa_nil))) pe_int))))

theorem sc__law_drawn : FnScope ["cell", "k", "more"] ["cell", "k"] (defScope s__law_drawn) := ⟨rfl, rfl, rfl, by decide +kernel, rfl, by decide +kernel, by decide +kernel⟩
theorem ok__law_drawn (T : Txt K mg cl A D) : FnOk P w K mg base (L2.CX P w) 1 A._law_drawn D._law_drawn ["cell", "k"] (spF K cl 2 dn__law_drawn) := by
  refine def_ok (k := 0) T.F__law_drawn sc__law_drawn fun cdv A' outer s H E hr => ⟨_, (PSs.nox (pss_cons (ps_set (i := 2) sc__law_drawn.nd rfl (.inl rfl) (pe_op op_mod (pe_op op_addD (pe_op op_mulD (pv 0) pe_int) (pe_op op_mulD (pe_op op_addD (pv 1) pe_int) pe_int)) pe_int))
      (pss_cons (ps_set (i := 2) sc__law_drawn.nd rfl (.inl rfl) (pe_op op_mod (pe_op op_mulD (pv 2) (pv 2)) pe_int))
      (pss_cons (ps_set (i := 2) sc__law_drawn.nd rfl (.inl rfl) (pe_op op_mulD (pe_op op_mulD (pe_op op_addD (pe_op op_mod (pv 2) pe_int) pe_int) (pe_op op_addD (pe_op op_fdivW (pv 2) pe_int) pe_int)) (pv 2)))
      (pss_one (ps_ret (pe_op op_mod (pv 2) pe_int))))))), ?_⟩
  exact (es_nox (es_seq (es_asg (ed_op o_mod ((ed_op o_add ((ed_op o_mul ((ed_var 0)).l ((ed_int 6364136223846793005)).l)).l ((ed_op o_mul ((ed_op o_add ((ed_var 1)).l ((ed_int 1)).l)).l ((ed_int 1442695040888963407)).l)).l)).l ((ed_int 340282366920938463463374607431768211507)).l))
      (es_seq (es_asg (ed_op o_mod ((ed_op o_mul ((ed_var 2)).l ((ed_var 2)).l)).l ((ed_int 340282366920938463463374607431768211297)).l))
      (es_seq (es_asg (ed_op o_mul ((ed_op o_mul ((ed_op o_add ((ed_op o_mod ((ed_var 2)).l ((ed_int 18446744073709551557)).l)).l ((ed_int 1)).l)).l ((ed_op o_add ((ed_op o_fdiv ((ed_var 2)).l ((ed_int 18446744073709551557)).l)).l ((ed_int 1)).l)).l)).l ((ed_var 2)).l))
      (es_ret ((ed_op o_mod ((ed_var 2)).l ((ed_int 340282366920938463463374607431768211507)).l)).l)))))

theorem sc__law_tones_first : FnScope ["more", "found", "j", "here"] ["more"] (defScope s__law_tones_first) := ⟨rfl, rfl, rfl, by decide +kernel, rfl, by decide +kernel, by decide +kernel⟩
theorem ok__law_tones_first (T : Txt K mg cl A D) : FnOk P w K mg base (L2.CX P w) 2 A._law_tones_first D._law_tones_first ["more"] (spF K cl 1 dn__law_tones_first) := by
  refine def_ok (k := 1) T.F__law_tones_first sc__law_tones_first fun cdv A' outer s H E hr => ⟨_, (PSs.nox (pss_cons (ps_set (i := 1) sc__law_tones_first.nd rfl (.inl rfl) (pe_lst pa_nil))
      (pss_cons (ps_for PassesOwn.never rfl (pi_range1 (by rfl) T.z_range (pa_cons (pe_op op_addD pe_int (pe_op op_mulD pe_int (pe_op op_mod (pv 0) pe_int))) pa_nil)) (pg_name (i := 2) sc__law_tones_first.nd rfl (.inl rfl)) (pss_cons (ps_set (i := 3) sc__law_tones_first.nd rfl (.inl rfl) (pe_call (ok__law_drawn (K := K) T) (hr.mono (by decide)) (by rfl) T.g__law_drawn T.F__law_drawn.kp T.b__law_drawn .nil passL (pa_cons (pv 0) (pa_cons (pv 2) pa_nil))))
      (pss_one (ps_expr (pe_bm PySem.F.plainAttrs_list PySem.F.slot_list_append PySem.F.type_list_append mt_append (pv 1) (pa_cons (pe_tup (pa_cons (pe_cmpR (kx_eq K rfl hr.units) (pe_op op_mod (pv 2) pe_int) pe_int (nomark _)) (pa_cons (pe_op op_addD pe_int (pe_op op_mod (pe_op op_fdivW (pv 3) pe_int) (pe_ix (kx_ix K rfl) (pe_lst (pa_cons pe_int (pa_cons pe_int (pa_cons pe_int pa_nil)))) (pe_op op_mod (pe_op op_fdivW (pv 3) pe_int) pe_int) (fun _ _ => rfl)))) pa_nil))) pa_nil))))))
      (pss_one (ps_ret (pv 1)))))), ?_⟩
  exact (es_nox (es_seq (es_asgF (ef_lst ea_nil))
      (es_seq (es_for (ei_rng1 (eb_cons ((ed_op o_add ((ed_int 1)).l ((ed_op o_mul ((ed_int 2)).l ((ed_op o_mod ((ed_var 0)).l ((ed_int 6)).l)).l)).l)).l eb_nil)) (ek_name 2) (es_seq (es_asg (ed_call (hn_cons (hn_cons hn_nil)) (ea_cons (ed_var 0) (ea_cons (ed_var 2) ea_nil))))
      (es_app (ed_tup (ea_cons (ed_op o_eq ((ed_op o_mod ((ed_var 2)).l ((ed_int 2)).l)).l ((ed_int 0)).l) (ea_cons (ed_op o_add ((ed_int 1)).l ((ed_op o_mod ((ed_op o_fdiv ((ed_var 3)).l ((ed_int 8)).l)).l ((ed_op o_ix ((ed_lst (ea_cons (ed_int 4) (ea_cons (ed_int 12) (ea_cons (ed_int 40) ea_nil))))).l ((ed_op o_mod ((ed_op o_fdiv ((ed_var 3)).l ((ed_int 512)).l)).l ((ed_int 3)).l)).l)).l)).l) ea_nil))))))
      (es_ret (el_var 1)))))

theorem sc_law : FnScope ["script", "k", "more", "one", "other", "unit", "row", "by", "wide", "ended", "gap", "sign", "long_here", "between", "is_tone", "ticks"] ["script"] (defScope s_law) := ⟨rfl, rfl, rfl, by decide +kernel, rfl, by decide +kernel, by decide +kernel⟩
theorem ok_law (T : Txt K mg cl A D) (hd : ∀ ns : List Int, ns.length ≤ 63 → runL 16 (sNx bd_law) ns = .ok (.bool true)) : FnOk P w K mg base (L2.CX P w) 5 A.law D.law ["script"] (spLaw K) := by
  refine law_ok (k := 4) (cl := cl) (body := sNx bd_law) T.F_law sc_law (fun cdv A' outer s H E hr => ⟨_, (PSs.nox (pss_cons (ps_for PassesOwn.never rfl (pi_range1 (by rfl) T.z_range (pa_cons (pe_callB (c_max2 rfl) (by rfl) T.z_max (by decide +kernel) (pa_cons pe_int (pa_cons (pe_callB (kx_min K rfl rfl) (by rfl) T.z_min (by decide +kernel) (pa_cons pe_int (pa_cons (pe_callB (kx_len K rfl) (by rfl) T.z_len (by decide +kernel) (pa_cons (pv 0) pa_nil)) pa_nil))) pa_nil))) pa_nil)) (pg_name (i := 1) sc_law.nd rfl (.inl rfl)) (pss_cons (ps_set (i := 2) sc_law.nd rfl (.inl rfl) (pe_call (ok__law_drawn (K := K) T) (hr.mono (by decide)) (by rfl) T.g__law_drawn T.F__law_drawn.kp T.b__law_drawn .nil passL (pa_cons (pe_call (ok__law_cell (K := K) T) (hr.mono (by decide)) (by rfl) T.g__law_cell T.F__law_cell.kp T.b__law_cell .nil passL (pa_cons (pv 0) (pa_cons (pv 1) pa_nil))) (pa_cons (pv 1) pa_nil))))
      (pss_cons (ps_par (i := 3) (j := 4) rfl sc_law.nd rfl rfl (by decide) rfl rfl (pa_cons (pe_call (ok__law_tones_first (K := K) T) (hr.mono (by decide)) (by rfl) T.g__law_tones_first T.F__law_tones_first.kp T.b__law_tones_first .nil passL (pa_cons (pe_call (ok__law_drawn (K := K) T) (hr.mono (by decide)) (by rfl) T.g__law_drawn T.F__law_drawn.kp T.b__law_drawn .nil passL (pa_cons (pv 2) (pa_cons pe_int pa_nil))) pa_nil)) (pa_cons (pe_call (ok__law_tones_first (K := K) T) (hr.mono (by decide)) (by rfl) T.g__law_tones_first T.F__law_tones_first.kp T.b__law_tones_first .nil passL (pa_cons (pe_call (ok__law_drawn (K := K) T) (hr.mono (by decide)) (by rfl) T.g__law_drawn T.F__law_drawn.kp T.b__law_drawn .nil passL (pa_cons (pv 2) (pa_cons pe_int pa_nil))) pa_nil)) pa_nil)) (by rfl))
      (pss_one (ps_for PassesOwn.never rfl (pi_range2 (by rfl) T.z_range (pa_cons pe_int (pa_cons pe_int pa_nil))) (pg_name (i := 5) sc_law.nd rfl (.inl rfl)) (pss_cons (ps_set (i := 6) sc_law.nd rfl (.inl rfl) (pe_call (ok_row_heard (K := K) T) (hr.mono (by decide)) (by rfl) T.g_row_heard T.F_row_heard.kp T.b_row_heard .nil passL (pa_cons (pv 3) (pa_cons (pv 5) pa_nil))))
      (pss_cons (ps_for PassesOwn.never rfl (kpi_list K rfl (pe_lst (pa_cons pe_int (pa_cons pe_int pa_nil)))) (pg_name (i := 7) sc_law.nd rfl (.inr rfl)) (pss_one (ps_if (pt_cmpR op_lt (pe_op op_mulD (pv 5) (pv 7)) pe_int (nomark _)) (pss_cons (ps_setLc (i := 8) (own := [("is_tone", 14), ("ticks", 15)]) rfl sc_law.nd rfl rfl (sw_true rfl rfl rfl (by decide +kernel)) (kpi_list K rfl (pv 3)) (blkOk_by (N := ["script", "k", "more", "one", "other", "unit", "row", "by", "wide", "ended", "gap", "sign", "long_here", "between", "is_tone", "ticks"]) (sc := defScope s_law) (own := [("is_tone", 14), ("ticks", 15)]) (by decide +kernel)) (fun _ _ _ _ _ => (kpg_tup (n := 2) K rfl rfl (pgs_cons (pg_name (i := 14) sc_law.nd rfl (.inl rfl)) (pgs_cons (pg_name (i := 15) sc_law.nd rfl (.inl rfl)) pgs_nil)))) (fun _ _ _ _ _ => pts_nil) (fun _ _ _ _ _ => (pe_tup (pa_cons (pv 14) (pa_cons (pe_op op_mulD (pv 15) (pv 7)) pa_nil)))))
      (pss_one (ps_if (PW.pt (pw_or (pt_cmpR (kx_ne K rfl hr.units) (pe_call (ok_row_heard (K := K) T) (hr.mono (by decide)) (by rfl) T.g_row_heard T.F_row_heard.kp T.b_row_heard .nil passL (pa_cons (pv 8) (pa_cons (pe_op op_mulD (pv 5) (pv 7)) pa_nil))) (pv 6) (nomark _)) (pw_or1 (pt_cmpR (kx_ne K rfl hr.units) (pe_call (ok_off (K := K) T) (hr.mono (by decide)) (by rfl) T.g_off T.F_off.kp T.b_off .nil passL (pa_cons (pv 8) (pa_cons (pe_op op_mulD (pv 5) (pv 7)) pa_nil))) (pe_op op_mulD (pv 7) (pe_call (ok_off (K := K) T) (hr.mono (by decide)) (by rfl) T.g_off T.F_off.kp T.b_off .nil passL (pa_cons (pv 3) (pa_cons (pv 5) pa_nil)))) (nomark _))))) (pss_one (ps_ret pe_bl)) pss_nil))) pss_nil)))
      (pss_cons (ps_set (i := 9) sc_law.nd rfl (.inl rfl) (pe_op op_addD (pe_op op_addD (pe_lst (pa_cons (pe_tup (pa_cons pe_bl (pa_cons (pe_op op_addD pe_int (pe_op op_mod (pe_op op_fdivW (pv 2) pe_int) pe_int)) pa_nil))) pa_nil)) (pv 3)) (pe_lst (pa_cons (pe_tup (pa_cons pe_bl (pa_cons (pe_op op_addD pe_int (pe_op op_mod (pe_op op_fdivW (pv 2) pe_int) pe_int)) pa_nil))) pa_nil))))
      (pss_cons (ps_if (PW.pt (pw_or (pt_cmpR (kx_ne K rfl hr.units) (pe_call (ok_row_heard (K := K) T) (hr.mono (by decide)) (by rfl) T.g_row_heard T.F_row_heard.kp T.b_row_heard .nil passL (pa_cons (pv 9) (pa_cons (pv 5) pa_nil))) (pv 6) (nomark _)) (pw_or1 (pt_cmpR (kx_ne K rfl hr.units) (pe_call (ok_off (K := K) T) (hr.mono (by decide)) (by rfl) T.g_off T.F_off.kp T.b_off .nil passL (pa_cons (pv 9) (pa_cons (pv 5) pa_nil))) (pe_call (ok_off (K := K) T) (hr.mono (by decide)) (by rfl) T.g_off T.F_off.kp T.b_off .nil passL (pa_cons (pv 3) (pa_cons (pv 5) pa_nil))) (nomark _))))) (pss_one (ps_ret pe_bl)) pss_nil)
      (pss_cons (ps_if (pt_cmpR (kx_ne K rfl hr.units) (pe_call (ok_row_heard (K := K) T) (hr.mono (by decide)) (by rfl) T.g_row_heard T.F_row_heard.kp T.b_row_heard .nil passL (pa_cons (kpe_rev K rfl (pv 3)) (pa_cons (pv 5) pa_nil))) (kpe_rev K rfl (pv 6)) (nomark _)) (pss_one (ps_ret pe_bl)) pss_nil)
      (pss_cons (ps_set (i := 10) sc_law.nd rfl (.inl rfl) (pe_lst (pa_cons (pe_op op_sub (pe_op op_mulD pe_int (pv 5)) pe_int) (pa_cons (pe_op op_mulD pe_int (pv 5)) (pa_cons (pe_op op_sub (pe_op op_mulD pe_int (pv 5)) pe_int) (pa_cons (pe_op op_mulD pe_int (pv 5)) (pa_cons pe_int pa_nil)))))))
      (pss_cons (ps_set (i := 11) sc_law.nd rfl (.inl rfl) (pe_lst (pa_cons pe_str (pa_cons pe_str (pa_cons pe_str (pa_cons pe_str (pa_cons pe_str pa_nil)))))))
      (pss_one (ps_for PassesOwn.never rfl (kpi_zip K rfl (by rfl) T.z_zip (pa_cons (pv 10) (pa_cons (pv 11) pa_nil))) (kpg_tup (n := 2) K rfl rfl (pgs_cons (pg_name (i := 12) sc_law.nd rfl (.inl rfl)) (pgs_cons (pg_name (i := 13) sc_law.nd rfl (.inl rfl)) pgs_nil))) (pss_one (ps_if (pt_cmpR (kx_ne K rfl hr.units) (pe_call (ok_row_heard (K := K) T) (hr.mono (by decide)) (by rfl) T.g_row_heard T.F_row_heard.kp T.b_row_heard .nil passL (pa_cons (pe_op op_addD (pe_op op_addD (pv 3) (pe_lst (pa_cons (pe_tup (pa_cons pe_bl (pa_cons (pv 12) pa_nil))) pa_nil))) (pv 4)) (pa_cons (pv 5) pa_nil))) (pe_op op_addD (pe_op op_addD (pv 6) (pv 13)) (pe_call (ok_row_heard (K := K) T) (hr.mono (by decide)) (by rfl) T.g_row_heard T.F_row_heard.kp T.b_row_heard .nil passL (pa_cons (pv 4) (pa_cons (pv 5) pa_nil)))) (nomark _)) (pss_one (ps_ret pe_bl)) pss_nil))))))))))))))))
      (pss_one (ps_ret pe_bl)))), ?_⟩) (by decide) hd
  exact (es_nox (es_seq (es_for (ei_rng1 (eb_cons ((ed_cb n_max2 (eb_cons ((ed_int 1)).l (eb_cons ((ed_cb n_min (eb_cons ((ed_int 4)).l (eb_cons ((ed_lenR 0)).l eb_nil)))).l eb_nil)))).l eb_nil)) (ek_name 1) (es_seq (es_asg (ed_call (hn_cons (hn_cons hn_nil)) (ea_cons (ed_cell 0 ((ed_var 1)).l) (ea_cons (ed_var 1) ea_nil))))
      (es_seq (es_par (ea_cons (ed_call (hn_cons hn_nil) (ea_cons (ed_call (hn_cons (hn_cons hn_nil)) (ea_cons (ed_var 2) (ea_cons (ed_int 1) ea_nil))) ea_nil)) (ea_cons (ed_call (hn_cons hn_nil) (ea_cons (ed_call (hn_cons (hn_cons hn_nil)) (ea_cons (ed_var 2) (ea_cons (ed_int 2) ea_nil))) ea_nil)) ea_nil)))
      (es_for (ei_rng2 (eb_cons ((ed_int 1)).l (eb_cons ((ed_int 10)).l eb_nil))) (ek_name 5) (es_seq (es_asg (ed_call (hn_cons (hn_cons hn_nil)) (ea_cons (ed_var 3) (ea_cons (ed_var 5) ea_nil))))
      (es_seq (es_for (ei_list (ed_lst (ea_cons (ed_int 2) (ea_cons (ed_int 3) ea_nil)))) (ek_name 7) (es_if (et_test ((ed_op o_lt ((ed_op o_mul ((ed_var 5)).l ((ed_var 7)).l)).l ((ed_int 10)).l)).l) (es_seq (es_asg ((ef_lc (vs := [14, 15]) (ei_list (ed_var 3)) (ek_tup (ek_cons (ek_name 14) (ek_cons (ek_name 15) ek_nil))) et_yes (ed_tup (ea_cons (ed_var 14) (ea_cons (ed_op o_mul ((ed_var 15)).l ((ed_var 7)).l) ea_nil))) (by decide))).s)
      (es_if (et_or (et_test ((ed_op o_ne ((ed_call (hn_cons (hn_cons hn_nil)) (ea_cons (ed_var 8) (ea_cons (ed_op o_mul ((ed_var 5)).l ((ed_var 7)).l) ea_nil)))).l ((ed_var 6)).l)).l) (et_test ((ed_op o_ne ((ed_call (hn_cons (hn_cons hn_nil)) (ea_cons (ed_var 8) (ea_cons (ed_op o_mul ((ed_var 5)).l ((ed_var 7)).l) ea_nil)))).l ((ed_op o_mul ((ed_var 7)).l ((ed_call (hn_cons (hn_cons hn_nil)) (ea_cons (ed_var 3) (ea_cons (ed_var 5) ea_nil)))).l)).l)).l)) (es_ret ((ed_bl false)).l) es_nil)) es_nil))
      (es_seq (es_asg (ed_op o_add ((ed_op o_add ((ed_lst (ea_cons (ed_tup (ea_cons (ed_bl false) (ea_cons (ed_op o_add ((ed_int 1)).l ((ed_op o_mod ((ed_op o_fdiv ((ed_var 2)).l ((ed_int 64)).l)).l ((ed_int 50)).l)).l) ea_nil))) ea_nil))).l ((ed_var 3)).l)).l ((ed_lst (ea_cons (ed_tup (ea_cons (ed_bl false) (ea_cons (ed_op o_add ((ed_int 1)).l ((ed_op o_mod ((ed_op o_fdiv ((ed_var 2)).l ((ed_int 4096)).l)).l ((ed_int 50)).l)).l) ea_nil))) ea_nil))).l))
      (es_seq (es_if (et_or (et_test ((ed_op o_ne ((ed_call (hn_cons (hn_cons hn_nil)) (ea_cons (ed_var 9) (ea_cons (ed_var 5) ea_nil)))).l ((ed_var 6)).l)).l) (et_test ((ed_op o_ne ((ed_call (hn_cons (hn_cons hn_nil)) (ea_cons (ed_var 9) (ea_cons (ed_var 5) ea_nil)))).l ((ed_call (hn_cons (hn_cons hn_nil)) (ea_cons (ed_var 3) (ea_cons (ed_var 5) ea_nil)))).l)).l)) (es_ret ((ed_bl false)).l) es_nil)
      (es_seq (es_if (et_test ((ed_op o_ne ((ed_call (hn_cons (hn_cons hn_nil)) (ea_cons (ed_rev ((ed_var 3)).l) (ea_cons (ed_var 5) ea_nil)))).l ((ed_rev ((ed_var 6)).l)).l)).l) (es_ret ((ed_bl false)).l) es_nil)
      (es_seq (es_asg (ed_lst (ea_cons (ed_op o_sub ((ed_op o_mul ((ed_int 2)).l ((ed_var 5)).l)).l ((ed_int 1)).l) (ea_cons (ed_op o_mul ((ed_int 2)).l ((ed_var 5)).l) (ea_cons (ed_op o_sub ((ed_op o_mul ((ed_int 5)).l ((ed_var 5)).l)).l ((ed_int 1)).l) (ea_cons (ed_op o_mul ((ed_int 5)).l ((ed_var 5)).l) (ea_cons (ed_int 2000) ea_nil)))))))
      (es_seq (es_asg (ed_lst (ea_cons (ed_str "") (ea_cons (ed_str " ") (ea_cons (ed_str " ") (ea_cons (ed_str " / ") (ea_cons (ed_str " / ") ea_nil)))))))
      (es_for (ei_zip (ea_cons (ed_var 10) (ea_cons (ed_var 11) ea_nil))) (ek_tup (ek_cons (ek_name 12) (ek_cons (ek_name 13) ek_nil))) (es_if (et_test ((ed_op o_ne ((ed_call (hn_cons (hn_cons hn_nil)) (ea_cons (ed_op o_add ((ed_op o_add ((ed_var 3)).l ((ed_lst (ea_cons (ed_tup (ea_cons (ed_bl false) (ea_cons (ed_var 12) ea_nil))) ea_nil))).l)).l ((ed_var 4)).l) (ea_cons (ed_var 5) ea_nil)))).l ((ed_op o_add ((ed_op o_add ((ed_var 6)).l ((ed_var 13)).l)).l ((ed_call (hn_cons (hn_cons hn_nil)) (ea_cons (ed_var 4) (ea_cons (ed_var 5) ea_nil)))).l)).l)).l) (es_ret ((ed_bl false)).l) es_nil)))))))))))))
      (es_ret ((ed_bl true)).l)))

end
end Tk
namespace Tk
open PySem L2 Dn
/-! ### the draws -/
def M1 : Int := 340282366920938463463374607431768211507
def M2 : Int := 340282366920938463463374607431768211297
def A64 : Int := 18446744073709551557
def drw1 (c k : Int) : Int := (c * 6364136223846793005 + (k + 1) * 1442695040888963407) % M1
def drw2 (c k : Int) : Int := drw1 c k * drw1 c k % M2
def drawn (c k : Int) : Int := ((drw2 c k % A64 + 1) * (drw2 c k / A64 + 1) * drw2 c k) % M1
theorem drawn_nn (c k : Int) : 0 ≤ drawn c k := Int.emod_nonneg _ (by decide)
theorem nab_mul {a b : Int} {p r : Nat} (ha : a.natAbs < 2 ^ p) (hb : b.natAbs < 2 ^ r) : (a * b).natAbs < 2 ^ (p + r) := by
  rw [Int.natAbs_mul, Nat.pow_add]
  exact Nat.mul_lt_mul'' ha hb
theorem nab_of {a : Int} {p : Nat} (h0 : 0 ≤ a) (h1 : a < ((2 ^ p : Nat) : Int)) : a.natAbs < 2 ^ p := by omega
theorem pow_up {a p r : Nat} (h : a < 2 ^ p) (hp : p ≤ r) : a < 2 ^ r := Nat.lt_of_lt_of_le h (Nat.pow_le_pow_right (by decide) hp)
theorem mod_nab (a : Int) {m : Int} (p : Nat) (hm : 0 < m) (hp : m ≤ ((2 ^ p : Nat) : Int)) : (a % m).natAbs < 2 ^ p := by
  have h0 := Int.emod_nonneg a (show m ≠ 0 by omega)
  have h1 := Int.emod_lt_of_pos a hm
  exact nab_of h0 (by omega)
theorem drawn_eq (c k : Int) : dn__law_drawn [.int c, .int k] = .ok (.int (drawn c k)) := by
  have e1 : mulD (.int c) (.int 6364136223846793005) = .ok (.int (c * 6364136223846793005)) := mulD_r _ _ ⟨by decide, by decide⟩
  have e2 : mulD (.int (k + 1)) (.int 1442695040888963407) = .ok (.int ((k + 1) * 1442695040888963407)) := mulD_r _ _ ⟨by decide, by decide⟩
  have b1 : (drw1 c k).natAbs < 2 ^ 129 := mod_nab _ 129 (by decide) (by decide)
  have b2 : (drw2 c k).natAbs < 2 ^ 129 := mod_nab _ 129 (by decide) (by decide)
  have n2 : 0 ≤ drw2 c k := Int.emod_nonneg _ (by decide)
  have e3 : mulD (.int (drw1 c k)) (.int (drw1 c k)) = .ok (.int (drw1 c k * drw1 c k)) := mulD_w _ _ ⟨pow_up b1 (by decide), pow_up b1 (by decide)⟩
  have b3 : (drw2 c k % A64 + 1).natAbs < 2 ^ 65 := by
    have h0 := Int.emod_nonneg (drw2 c k) (show A64 ≠ 0 by decide)
    have h1 := Int.emod_lt_of_pos (drw2 c k) (show (0 : Int) < A64 by decide)
    have h2 : A64 < ((2 ^ 64 : Nat) : Int) := by decide
    exact nab_of (by omega) (by omega)
  have b4 : (drw2 c k / A64 + 1).natAbs < 2 ^ 130 := by
    have h0 : 0 ≤ drw2 c k / A64 := Int.ediv_nonneg n2 (by decide)
    have h1 : drw2 c k / A64 ≤ drw2 c k := Int.ediv_le_self _ n2
    have h2 : drw2 c k < ((2 ^ 129 : Nat) : Int) := by omega
    exact nab_of (by omega) (by omega)
  have e4 : mulD (.int (drw2 c k % A64 + 1)) (.int (drw2 c k / A64 + 1)) = .ok (.int ((drw2 c k % A64 + 1) * (drw2 c k / A64 + 1))) := mulD_w _ _ ⟨pow_up b3 (by decide), pow_up b4 (by decide)⟩
  have e5 : mulD (.int ((drw2 c k % A64 + 1) * (drw2 c k / A64 + 1))) (.int (drw2 c k)) = .ok (.int ((drw2 c k % A64 + 1) * (drw2 c k / A64 + 1) * drw2 c k)) := mulD_w _ _ ⟨pow_up (nab_mul b3 b4) (by decide), pow_up b2 (by decide)⟩
  have m1 : ∀ a : Int, modD (.int a) (.int 340282366920938463463374607431768211507) = .ok (.int (a % M1)) := fun a => modD_int _ _ (by decide)
  have m2 : ∀ a : Int, modD (.int a) (.int 340282366920938463463374607431768211297) = .ok (.int (a % M2)) := fun a => modD_int _ _ (by decide)
  have m3 : ∀ a : Int, modD (.int a) (.int 18446744073709551557) = .ok (.int (a % A64)) := fun a => modD_int _ _ (by decide)
  have m4 : ∀ a : Int, fdivD (.int a) (.int 18446744073709551557) = .ok (.int (a / A64)) := fun a => fdivD_int _ _ (by decide)
  unfold dn__law_drawn runB sNx bd__law_drawn
  simp only [List.map_cons, List.map_nil, List.length_cons, List.length_nil, Nat.reduceSub, Nat.reduceAdd, List.replicate_succ, List.replicate_zero, List.cons_append, List.nil_append, sSeq_ap, sAsg_ap, d2_ap, dVar_ap, dC_ap, List.getElem?_cons_zero, List.getElem?_cons_succ, R.bind_ok, e1, e2, addD_int, m1, List.set_cons_succ, List.set_cons_zero]
  show (R.bind (R.bind (R.bind (mulD (.int (drw1 c k)) (.int (drw1 c k))) _) _) _).noexc.bind _ = _
  rw [e3]
  simp only [R.bind_ok, m2, sSeq_ap, sAsg_ap, d2_ap, dVar_ap, dC_ap, List.getElem?_cons_zero, List.getElem?_cons_succ, List.set_cons_succ, List.set_cons_zero, m3, m4, addD_int]
  show (R.bind (R.bind (R.bind (mulD (.int (drw2 c k % A64 + 1)) (.int (drw2 c k / A64 + 1))) _) _) _).noexc.bind _ = _
  rw [e4]
  simp only [R.bind_ok]
  show (R.bind (R.bind (mulD (.int ((drw2 c k % A64 + 1) * (drw2 c k / A64 + 1))) (.int (drw2 c k))) _) _).noexc.bind _ = _
  rw [e5]
  simp only [R.bind_ok, sRet_ap, d2_ap, dVar_ap, dC_ap, List.getElem?_cons_zero, List.getElem?_cons_succ, m1, R.noexc_ok]
  rfl
end Tk

namespace Tk
open PySem L2 Dn
/-! ### is_count -/
def isCnt (d : PD) (lo hi : Int) : Bool := match d with
  | .int v => decide (lo ≤ v) && decide (v ≤ hi)
  | _ => false
theorem is_count_eq (d : PD) (lo hi : Int) : dn_is_count [d, .int lo, .int hi] = .ok (.bool (isCnt d lo hi)) := by
  unfold dn_is_count runB sNx bd_is_count
  cases d with
  | int v =>
    by_cases h : lo ≤ v
    · simp [isIntD, isBoolD, isCnt, h]
    · simp [isIntD, isBoolD, isCnt, h]
  | _ => simp [isIntD, isBoolD, isCnt]
end Tk

namespace Tk
open PySem L2 Dn
theorem need_unit_ok (u : Int) (h : 1 ≤ u ∧ u ≤ 9) : dn_need_unit [.int u] = .ok .none := by
  unfold dn_need_unit runB bd_need_unit
  simp [is_count_eq, isCnt, cv_MOST_UNIT, h]
theorem need_unit_bad (d : PD) (h : isCnt d 1 9 = false) : dn_need_unit [d] = .exc "BadNumber" := by
  unfold dn_need_unit runB bd_need_unit
  simp [is_count_eq, cv_MOST_UNIT, h]
end Tk

namespace Tk
open PySem L2 Dn
/-! ### runs -/
abbrev Run := Bool × Int
def eb (p : Run) : PD := .tuple [.bool p.1, .int p.2]
def eR (rs : List Run) : PD := .list (rs.map eb)
def alt : List Run → Bool
  | a :: b :: r => (a.1 != b.1) && alt (b :: r)
  | _ => true
structure OkR (rs : List Run) : Prop where
  len : rs.length ≤ 1000
  tick : ∀ p ∈ rs, 1 ≤ p.2 ∧ p.2 ≤ 2000
  alt : alt rs = true
theorem are_loop (x : SV) : ∀ (rs : List Run) (y : SV) (a b : SV), (∀ p ∈ rs, 1 ≤ p.2 ∧ p.2 ≤ 2000) → ∃ y', loopF (gN 1) lp_are_runs_1 (rs.map eb) [x, y, a, b] = .ok (.nx [x, y', a, b])
  | [], y, a, b, _ => ⟨y, rfl⟩
  | p :: r, y, a, b, h => by
    obtain ⟨h1, h2⟩ := h p List.mem_cons_self
    obtain ⟨y', ih⟩ := are_loop x r (.sh (eb p)) a b fun q hq => h q (List.mem_cons_of_mem _ hq)
    refine ⟨y', ?_⟩
    rw [List.map_cons, loopF_cons, ← ih]
    unfold lp_are_runs_1
    simp [eb, isTupD, isBoolD, is_count_eq, isCnt, cv_MOST_LONG, h1, h2]
theorem cut_init (ds : List PD) : cutD ds none (some (-1)) = ds.dropLast := by
  unfold cutD
  rw [HT.sIx_none, List.drop_zero]
  show ds.take ((if (-1 : Int) < 0 then ((-1 : Int) + (ds.length : Int)).toNat else min (-1 : Int).toNat ds.length) - 0) = _
  rw [if_pos (by decide), List.dropLast_eq_take]
  congr 1
  omega
theorem cut_tail (ds : List PD) : cutD ds (some 1) none = ds.tail := by
  unfold cutD
  rw [HT.sIx_none, show HT.sIx ds.length 0 (some 1) = min 1 ds.length from HT.sIx_nat ds.length 0 1]
  cases ds with
  | nil => rfl
  | cons a r =>
    rw [show min 1 (a :: r).length = 1 by rw [List.length_cons]; omega]
    show r.take ((a :: r).length - 1) = r
    exact List.take_of_length_le (by rw [List.length_cons]; omega)
def pairs (rs : List Run) : List (Run × Run) := rs.dropLast.zip rs.tail
theorem zipD_map (a b : List Run) : zipD (a.map eb) (b.map eb) = (a.zip b).map fun p => .tuple [eb p.1, eb p.2] := by
  unfold zipD
  rw [List.zip_map, List.map_map]
  rfl
theorem alt_pairs : ∀ rs : List Run, alt rs = true → ((pairs rs).map fun p => decide (p.1.1 = p.2.1)).any id = false
  | [], _ => rfl
  | [_], _ => rfl
  | a :: b :: r, h => by
    unfold alt at h
    rw [Bool.and_eq_true] at h
    have ih := alt_pairs (b :: r) h.2
    have e : pairs (a :: b :: r) = (a, b) :: pairs (b :: r) := rfl
    rw [e, List.map_cons, List.any_cons, ih]
    have h1 : a.1 ≠ b.1 := by simpa using h.1
    simp [h1]
theorem are_runs_ok (rs : List Run) (h : OkR rs) : dn_are_runs [eR rs] = .ok (.bool true) := by
  unfold dn_are_runs runB sNx bd_are_runs
  obtain ⟨y', hl⟩ := are_loop (.sh (eR rs)) rs .no .no .no h.tick
  have hlen := h.len
  have hc : lcL (gT 2 (gCn (gN 2) (gCn (gN 3) gNl))) dYes ce_are_runs_2 (wipeE [.sh (eR rs), y', .no, .no] [2, 3]) (zipD (rs.map eb).dropLast (rs.map eb).tail) = .ok ((pairs rs).map fun p => .bool (decide (p.1.1 = p.2.1))) := by
    rw [← List.map_dropLast, ← List.map_tail, zipD_map]
    refine lcL_map _ _ (fun p => ?_) _
    refine ⟨[.sh (eR rs), y', .sh (eb p.1), .sh (eb p.2)], by simp [wipeE], ?_⟩
    unfold ce_are_runs_2
    simp [eb]
  have hk : ((pairs rs).map fun p => PyData.bool (decide (p.1.1 = p.2.1))).length ≤ szN := by
    rw [List.length_map]
    unfold pairs
    rw [List.length_zip, List.length_dropLast]
    unfold szN
    omega
  have hb : asBools ((pairs rs).map fun p => PyData.bool (decide (p.1.1 = p.2.1))) = some ((pairs rs).map fun p => decide (p.1.1 = p.2.1)) := by
    have := asBools_map ((pairs rs).map fun p => decide (p.1.1 = p.2.1))
    rw [List.map_map] at this
    exact this
  have hfr : free [.sh (eR rs), y', .no, .no] [2, 3] = true := rfl
  have hal := alt_pairs rs h.alt
  have hcut1 := cut_init (rs.map eb)
  have hcut2 := cut_tail (rs.map eb)
  simp only [eR] at *
  have hgt : ¬ (1000 : Int) < (rs.length : Int) := by omega
  simp [isListD, cv_MOST_RUNS, hgt, hl, zip2, hcut1, hcut2, dLc, hc, hfr, chk_ok _ hk, anyD, hb]
  simpa using hal
theorem need_runs_ok (rs : List Run) (h : OkR rs) : dn_need_runs [eR rs] = .ok .none := by
  unfold dn_need_runs runB bd_need_runs
  simp [are_runs_ok rs h]
end Tk

namespace Tk
open PySem L2 Dn
/-! ### inner, rows -/
theorem lay_eb : ∀ rs : List Run, PyData.canLayAll0 (rs.map eb) = true
  | [] => rfl
  | a :: r => by
    show (PyData.canLay0 (eb a) && PyData.canLayAll0 (r.map eb)) = true
    rw [lay_eb r]
    rfl
theorem depth_eb : ∀ rs : List Run, PyData.depthAll (rs.map eb) ≤ 1
  | [] => Nat.zero_le _
  | a :: r => by
    show max (PyData.depth (eb a)) (PyData.depthAll (r.map eb)) ≤ 1
    have h : PyData.depth (eb a) = 1 := rfl
    have := depth_eb r
    omega
theorem shaped_eR (rs : List Run) : SeqAt.shaped (eR rs) = true := by
  unfold SeqAt.shaped
  rw [Bool.and_eq_true]
  refine ⟨lay_eb rs, decide_eq_true ?_⟩
  show PyData.depthAll (rs.map eb) + 1 ≤ 64
  have := depth_eb rs
  omega
theorem shaped_nil : SeqAt.shaped (.list []) = true := by decide
theorem neD_nil (xs : List PD) (h : SeqAt.shaped (.list xs) = true) : neD (.list xs) (.list []) = .ok (.bool (!xs.isEmpty)) := by
  show (if (SeqAt.shaped (.list xs) && SeqAt.shaped (.list [])) = true then R.ok (PyData.bool (!PyData.eqv (.list xs) (.list []))) else .stuck) = _
  rw [h, shaped_nil, Bool.and_self, if_pos rfl]
  cases xs <;> rfl
def firstOf (rs : List Run) : Nat := match rs with
  | p :: _ => if p.1 then 0 else 1
  | [] => 0
def behindOf (rs : List Run) : Nat := rs.length - (match rs.getLast? with
  | some p => if rs.length > firstOf rs && !p.1 then 1 else 0
  | none => 0)
def innerR (rs : List Run) : List Run := (rs.drop (firstOf rs)).take (behindOf rs - firstOf rs)
theorem cut_nat (rs : List Run) (a b : Nat) (ha : a ≤ rs.length) (hb : b ≤ rs.length) : cutD (rs.map eb) (some (a : Int)) (some (b : Int)) = ((rs.drop a).take (b - a)).map eb := by
  unfold cutD
  rw [show HT.sIx (rs.map eb).length 0 (some (a : Int)) = min a (rs.map eb).length from HT.sIx_nat _ 0 a, show HT.sIx (rs.map eb).length (rs.map eb).length (some (b : Int)) = min b (rs.map eb).length from HT.sIx_nat _ _ b, List.length_map, Nat.min_eq_left ha, Nat.min_eq_left hb, List.map_take, List.map_drop]
theorem first_le (rs : List Run) : firstOf rs ≤ rs.length := by
  unfold firstOf
  cases rs with
  | nil => exact Nat.le_refl _
  | cons p r =>
    dsimp only
    rw [List.length_cons]
    split <;> omega
theorem atI_0 (ds : List PD) : atI ds 0 = ds[0]? := atI_nat' ds 0
theorem inner_eq (rs : List Run) : dn_inner [eR rs] = .ok (eR (innerR rs)) := by
  unfold dn_inner runB sNx bd_inner
  cases rs with
  | nil =>
    simp [eR, neD_nil [] shaped_nil, innerR]
    rfl
  | cons p r =>
    obtain ⟨b, hb⟩ : ∃ z, (p :: r).getLast? = some z := ⟨_, List.getLast?_eq_getLast (List.cons_ne_nil _ _)⟩
    have h0 : ixD (.list ((p :: r).map eb)) (.int 0) = .ok (eb p) := ixD_list _ _ _ (by rw [atI_0]; rfl)
    have h1 : ixD (.list ((p :: r).map eb)) (.int (-1)) = .ok (eb b) := ixD_list _ _ _ (by
      rw [atI_last' _ (by simp), List.getLast?_map, hb]
      rfl)
    have hn := neD_nil ((p :: r).map eb) (shaped_eR (p :: r))
    have hlen : ((p :: r).map eb).length = (p :: r).length := List.length_map ..
    have hcut : cutD ((p :: r).map eb) (some ((firstOf (p :: r) : Nat) : Int)) (some ((behindOf (p :: r) : Nat) : Int)) = (innerR (p :: r)).map eb := cut_nat _ _ _ (first_le _) (by unfold behindOf; omega)
    have hf : (if (!p.1) = true then (1 : Int) else 0) = ((firstOf (p :: r) : Nat) : Int) := by
      unfold firstOf
      dsimp only
      cases p.1 <;> rfl
    have hg : ((p :: r).length : Int) - (if (decide (((firstOf (p :: r) : Nat) : Int) < ((p :: r).length : Int)) && !b.1) = true then (1 : Int) else 0) = ((behindOf (p :: r) : Nat) : Int) := by
      unfold behindOf
      rw [hb]
      dsimp only
      have hd : decide ((p :: r).length > firstOf (p :: r)) = decide (((firstOf (p :: r) : Nat) : Int) < ((p :: r).length : Int)) := by
        rw [decide_eq_decide]
        omega
      rw [hd]
      rw [List.length_cons]
      cases (decide (((firstOf (p :: r) : Nat) : Int) < ((r.length + 1 : Nat) : Int)) && !b.1) <;> simp <;> omega
    have e1 : ixD (eb p) (.int 0) = .ok (.bool p.1) := rfl
    have e2 : ixD (eb b) (.int 0) = .ok (.bool b.1) := rfl
    unfold eR
    simp only [List.map_cons, List.map_nil, List.length_cons, List.length_nil, Nat.reduceSub, Nat.reduceAdd, List.replicate_succ, List.replicate_zero, List.cons_append, List.nil_append] at *
    simp only [sSeq_ap, sAsg_ap, dN_ap, dCons_ap, dNil_ap, dAndV_ap, d2_ap, d1_ap, dVar_ap, dC_ap, List.getElem?_cons_zero, List.getElem?_cons_succ, R.bind_ok, mkL_0, hn, List.isEmpty_cons, Bool.not_false, h0, e1, notD_ap, intD_bool, hf, List.set_cons_succ, List.set_cons_zero, lenD_list, List.length_cons, List.length_map, gtD_int, negD_int, h1, e2]
    cases hd : decide (((firstOf (p :: r) : Nat) : Int) < ((r.length + 1 : Nat) : Int)) with
    | false =>
      simp only [hd, Bool.false_and] at hg
      simp only [R.bind_ok, intD_bool, subD_int, hg, List.set_cons_succ, List.set_cons_zero, sRet_ap, dSl_ap, dVar_ap, dOso_ap, List.getElem?_cons_zero, List.getElem?_cons_succ, slD_list, hcut, R.noexc_ok]
    | true =>
      simp only [hd, Bool.true_and] at hg
      simp only [R.bind_ok, intD_bool, subD_int, hg, List.set_cons_succ, List.set_cons_zero, sRet_ap, dSl_ap, dVar_ap, dOso_ap, List.getElem?_cons_zero, List.getElem?_cons_succ, slD_list, hcut, R.noexc_ok]
def piece (u : Int) (p : Run) : List Nat := if p.1 then (if p.2 < 2 * u then [46] else [45]) else if 5 * u ≤ p.2 then [32, 47, 32] else if 2 * u ≤ p.2 then [32] else []
def rowOf (u : Int) (rs : List Run) : List Nat := rs.flatMap (piece u)
theorem piece_len (u : Int) (p : Run) : (piece u p).length ≤ 3 := by
  unfold piece
  split
  · split <;> decide
  · split
    · decide
    · split <;> decide
theorem rowOf_len (u : Int) : ∀ rs : List Run, (rowOf u rs).length ≤ 3 * rs.length
  | [] => Nat.zero_le _
  | p :: r => by
    have h1 := piece_len u p
    have h2 := rowOf_len u r
    show (piece u p ++ rowOf u r).length ≤ _
    rw [List.length_append, List.length_cons]
    omega
theorem row_loop (z : SV) (u : Int) : ∀ (rs : List Run) (acc : List Nat) (x y : SV), acc.length + 3 * rs.length ≤ 100000 → ∃ x' y', loopF (gT 2 (gCn (gN 3) (gCn (gN 4) gNl))) lp_row_in_1 (rs.map eb) [z, .sh (.int u), .sh (.str (st acc)), x, y] = .ok (.nx [z, .sh (.int u), .sh (.str (st (acc ++ rowOf u rs))), x', y'])
  | [], acc, x, y, _ => ⟨x, y, by simp [rowOf]⟩
  | p :: r, acc, x, y, h => by
    have h1 := piece_len u p
    rw [List.length_cons] at h
    obtain ⟨x', y', ih⟩ := row_loop z u r (acc ++ piece u p) (.sh (.bool p.1)) (.sh (.int p.2)) (by rw [List.length_append]; omega)
    refine ⟨x', y', ?_⟩
    have e : acc ++ rowOf u (p :: r) = (acc ++ piece u p) ++ rowOf u r := by
      rw [List.append_assoc]
      rfl
    rw [e, ← ih, List.map_cons, loopF_cons]
    have ha : ∀ b : List Nat, b.length ≤ 3 → addD (.str (st acc)) (.str (st b)) = .ok (.str (st (acc ++ b))) := fun b hb => by
      rw [addD_str _ _ (by rw [st_len, st_len]; unfold szN; omega), st_app]
    have t1 : (".": Str) = st [46] := by decide
    have t2 : ("-": Str) = st [45] := by decide
    have t3 : (" / ": Str) = st [32, 47, 32] := by decide
    have t4 : (" ": Str) = st [32] := by decide
    have m2 : mulD (.int 2) (.int u) = .ok (.int (2 * u)) := mulD_l _ _ ⟨by decide, by decide⟩
    have m5 : mulD (.int 5) (.int u) = .ok (.int (5 * u)) := mulD_l _ _ ⟨by decide, by decide⟩
    obtain ⟨b, t⟩ := p
    cases b with
    | true =>
      by_cases hc : t < 2 * u
      · simp [eb, lp_row_in_1, m2, hc, t1, ha [46] (by decide), piece]
      · simp [eb, lp_row_in_1, m2, hc, t2, ha [45] (by decide), piece]
    | false =>
      by_cases hc : 5 * u ≤ t
      · simp [eb, lp_row_in_1, m5, hc, t3, ha [32, 47, 32] (by decide), piece]
      · by_cases hc2 : 2 * u ≤ t
        · simp [eb, lp_row_in_1, m5, m2, hc, hc2, t4, ha [32] (by decide), piece]
        · simp [eb, lp_row_in_1, m5, m2, hc, hc2, piece]
theorem inner_len (rs : List Run) : (innerR rs).length ≤ rs.length := by
  unfold innerR
  rw [List.length_take, List.length_drop]
  omega
theorem row_in_eq (rs : List Run) (u : Int) (h : rs.length ≤ 10000) : dn_row_in [eR rs, .int u] = .ok (.str (st (rowOf u (innerR rs)))) := by
  unfold dn_row_in runB sNx bd_row_in
  have h2 := inner_len rs
  obtain ⟨x, y, hl⟩ := row_loop (.sh (eR rs)) u (innerR rs) [] .no .no (by rw [List.length_nil]; omega)
  have t0 : ("": Str) = st [] := by decide
  have hi : asL (eR (innerR rs)) = .ok ((innerR rs).map eb) := rfl
  simp [inner_eq, hi, t0, hl]
theorem row_heard_ok (rs : List Run) (u : Int) (h : OkR rs) (hu : 1 ≤ u ∧ u ≤ 9) : dn_row_heard [eR rs, .int u] = .ok (.str (st (rowOf u (innerR rs)))) := by
  unfold dn_row_heard runB bd_row_heard
  have := h.len
  simp [need_runs_ok rs h, need_unit_ok u hu, row_in_eq rs u (by omega)]
end Tk

namespace Tk
open PySem L2 Dn
/-! ### off -/
def ab (i : Int) : Int := if i < 0 then -i else i
def offP (u : Int) (p : Run) : Int := if p.1 then minI (ab (p.2 - 1 * u)) [ab (p.2 - 3 * u)] else minI (ab (p.2 - 1 * u)) [ab (p.2 - 3 * u), ab (p.2 - 7 * u)]
def offR (u : Int) (rs : List Run) : Int := (rs.map (offP u)).sum
theorem off_el (z : SV) (u : Int) (p : Run) (x : SV) : ce_off_by_2 [z, .sh (.int u), .sh (.bool p.1), .sh (.int p.2), x] = (if isOwn x then .stuck else .ok (.int (offP u p))) := by
  have m : ∀ k : Int, (-(2 ^ 64) < k ∧ k < 2 ^ 64) → mulD (.int k) (.int u) = .ok (.int (k * u)) := fun k h => mulD_l _ _ h
  have m1 := m 1 ⟨by decide, by decide⟩
  have m3 := m 3 ⟨by decide, by decide⟩
  have m7 := m 7 ⟨by decide, by decide⟩
  obtain ⟨b, t⟩ := p
  unfold ce_off_by_2
  have hf : free [z, .sh (.int u), .sh (.bool b), .sh (.int t), x] [4] = !isOwn x := by simp [free]
  cases hx : isOwn x with
  | true =>
    rw [hx] at hf
    cases b <;> simp [kvB, kt_NOMINAL, kf_NOMINAL, dLc, hf]
  | false =>
    rw [hx] at hf
    have c2 : ∀ a b : PD, chk [a, b] = .ok [a, b] := fun a b => chk_ok _ (by show 2 ≤ szN; decide)
    have c3 : ∀ a b c : PD, chk [a, b, c] = .ok [a, b, c] := fun a b c => chk_ok _ (by show 3 ≤ szN; decide)
    cases b with
    | true => simp [kvB, kt_NOMINAL, dLc, hf, lcL, wipeE, ce_off_by_1, m1, m3, c2, minD, asInts, offP, ab]
    | false => simp [kvB, kf_NOMINAL, dLc, hf, lcL, wipeE, ce_off_by_1, m1, m3, m7, c3, minD, asInts, offP, ab]
theorem off_by_eq (rs : List Run) (u : Int) (h : rs.length ≤ 10000) : dn_off_by [eR rs, .int u] = .ok (.int (offR u (innerR rs))) := by
  unfold dn_off_by runB sNx bd_off_by
  have hi : asL (eR (innerR rs)) = .ok ((innerR rs).map eb) := rfl
  have hc : lcL (gT 2 (gCn (gN 2) (gCn (gN 3) gNl))) dYes ce_off_by_2 (wipeE [.sh (eR rs), .sh (.int u), .no, .no, .no] [2, 3]) ((innerR rs).map eb) = .ok ((innerR rs).map fun p => .int (offP u p)) := by
    refine lcL_map _ _ (fun p => ?_) _
    refine ⟨[.sh (eR rs), .sh (.int u), .sh (.bool p.1), .sh (.int p.2), .no], by simp [wipeE, eb], ?_⟩
    rw [off_el]
    rfl
  have hfr : free [.sh (eR rs), .sh (.int u), .no, .no, .no] [2, 3] = true := rfl
  have hl := inner_len rs
  have hk : chk ((innerR rs).map fun p => PyData.int (offP u p)) = .ok ((innerR rs).map fun p => .int (offP u p)) := chk_ok _ (by rw [List.length_map]; unfold szN; omega)
  have hs : asInts ((innerR rs).map fun p => PyData.int (offP u p)) = some ((innerR rs).map (offP u)) := by
    have := asInts_map ((innerR rs).map (offP u))
    rw [List.map_map] at this
    exact this
  simp [inner_eq, hi, dLc, hfr, hc, hk, sumD, hs, offR]
theorem off_ok (rs : List Run) (u : Int) (h : OkR rs) (hu : 1 ≤ u ∧ u ≤ 9) : dn_off [eR rs, .int u] = .ok (.int (offR u (innerR rs))) := by
  unfold dn_off runB bd_off
  have := h.len
  simp [need_runs_ok rs h, need_unit_ok u hu, off_by_eq rs u (by omega)]
end Tk

namespace Tk
open PySem L2 Dn
/-! ### drawn runs, a tone at both ends -/
def tfWide (h : Int) : Int := ([4, 12, 40] : List Int).getD (h / 512 % 3).toNat 4
def tfAt (m : Int) (j : Nat) : Run := (decide ((j : Int) % 2 = 0), 1 + drawn m j / 8 % tfWide (drawn m j))
def tfN (m : Int) : Nat := (1 + 2 * (m % 6)).toNat
def tf (m : Int) : List Run := (List.range (tfN m)).map (tfAt m)
theorem tfWide_b (h : Int) (h0 : 0 ≤ h) : 4 ≤ tfWide h ∧ tfWide h ≤ 40 := by
  unfold tfWide
  have h1 := Int.emod_nonneg (h / 512) (show (3 : Int) ≠ 0 by decide)
  have h2 := Int.emod_lt_of_pos (h / 512) (show (0 : Int) < 3 by decide)
  have : (h / 512 % 3).toNat = 0 ∨ (h / 512 % 3).toNat = 1 ∨ (h / 512 % 3).toNat = 2 := by omega
  rcases this with e | e | e <;> rw [e] <;> decide
theorem tf_ix (h : Int) (h0 : 0 ≤ h) : ixD (.list [.int 4, .int 12, .int 40]) (.int (h / 512 % 3)) = .ok (.int (tfWide h)) := by
  have h1 := Int.emod_nonneg (h / 512) (show (3 : Int) ≠ 0 by decide)
  have h2 := Int.emod_lt_of_pos (h / 512) (show (0 : Int) < 3 by decide)
  have : h / 512 % 3 = 0 ∨ h / 512 % 3 = 1 ∨ h / 512 % 3 = 2 := by omega
  unfold tfWide
  rcases this with e | e | e <;> rw [e] <;> rfl
theorem tf_loop (m : Int) : ∀ (l : List Nat) (acc : List PD) (x y : SV), acc.length + l.length ≤ 1000 → ∃ x' y', loopF (gN 2) lp__law_tones_first_1 (l.map fun (i : Nat) => PyData.int (0 + (i : Int))) [.sh (.int m), .ol acc, x, y] = .ok (.nx [.sh (.int m), .ol (acc ++ l.map fun i => eb (tfAt m i)), x', y'])
  | [], acc, x, y, _ => ⟨x, y, by simp⟩
  | j :: r, acc, x, y, h => by
    rw [List.length_cons] at h
    obtain ⟨x', y', ih⟩ := tf_loop m r (acc ++ [eb (tfAt m j)]) (.sh (.int (j : Int))) (.sh (.int (drawn m j))) (by simp; omega)
    refine ⟨x', y', ?_⟩
    have e : acc ++ (j :: r).map (fun i => eb (tfAt m i)) = (acc ++ [eb (tfAt m j)]) ++ r.map fun i => eb (tfAt m i) := by simp
    rw [e, ← ih, List.map_cons, loopF_cons]
    have hn := drawn_nn m j
    have hw := tfWide_b _ hn
    have m1 : modD (.int (j : Int)) (.int 2) = .ok (.int ((j : Int) % 2)) := modD_int _ _ (by decide)
    have m2 : fdivD (.int (drawn m j)) (.int 8) = .ok (.int (drawn m j / 8)) := fdivD_int _ _ (by decide)
    have m3 : fdivD (.int (drawn m j)) (.int 512) = .ok (.int (drawn m j / 512)) := fdivD_int _ _ (by decide)
    have m4 : modD (.int (drawn m j / 512)) (.int 3) = .ok (.int (drawn m j / 512 % 3)) := modD_int _ _ (by decide)
    have m5 : modD (.int (drawn m j / 8)) (.int (tfWide (drawn m j))) = .ok (.int (drawn m j / 8 % tfWide (drawn m j))) := modD_int _ _ (by omega)
    have hs : acc.length + 1 ≤ szN := by unfold szN; omega
    simp [lp__law_tones_first_1, drawn_eq, m1, m2, m3, m4, tf_ix _ hn, m5, hs, eb, tfAt]
theorem tf_eq (m : Int) (h : 0 ≤ m) : dn__law_tones_first [.int m] = .ok (eR (tf m)) := by
  unfold dn__law_tones_first runB sNx bd__law_tones_first
  have h1 := Int.emod_nonneg m (show (6 : Int) ≠ 0 by decide)
  have h2 := Int.emod_lt_of_pos m (show (0 : Int) < 6 by decide)
  have m1 : modD (.int m) (.int 6) = .ok (.int (m % 6)) := modD_int _ _ (by decide)
  have m2 : mulD (.int 2) (.int (m % 6)) = .ok (.int (2 * (m % 6))) := mulD_l _ _ ⟨by decide, by decide⟩
  have hN : tfN m ≤ 11 := by unfold tfN; omega
  obtain ⟨x, y, hl⟩ := tf_loop m (List.range (tfN m)) [] .no .no (by simp; omega)
  have hr : rng1 [.int (1 + 2 * (m % 6))] = .ok (rngL 0 (tfN m)) := if_pos (by omega)
  have hr2 : rngL 0 (tfN m) = (List.range (tfN m)).map fun (i : Nat) => PyData.int (0 + (i : Int)) := rfl
  rw [← hr2] at hl
  simp [m1, m2, hr, hl, eR, tf]
end Tk

namespace Tk
open PySem L2 Dn
/-! ### plain laws of rows and of what is off -/
theorem innerR_id (rs : List Run) (p q : Run) (hp : rs.head? = some p) (hq : rs.getLast? = some q) (h1 : p.1 = true) (h2 : q.1 = true) : innerR rs = rs := by
  cases rs with
  | nil => cases hp
  | cons a r =>
    have ea : a = p := Option.some.inj hp
    subst ea
    have hf : firstOf (a :: r) = 0 := by
      unfold firstOf
      dsimp only
      rw [h1]
      rfl
    have hb : behindOf (a :: r) = (a :: r).length := by
      unfold behindOf
      rw [hq]
      dsimp only
      rw [h2]
      simp
    unfold innerR
    rw [hf, hb, List.drop_zero, Nat.sub_zero, List.take_length]
theorem innerR_ended (rs : List Run) (x y : Int) (h : rs ≠ []) : innerR ([(false, x)] ++ rs ++ [(false, y)]) = rs := by
  have hf : firstOf ([(false, x)] ++ rs ++ [(false, y)]) = 1 := rfl
  have hl : ([(false, x)] ++ rs ++ [(false, y)]).length = rs.length + 2 := by simp
  have hb : behindOf ([(false, x)] ++ rs ++ [(false, y)]) = rs.length + 1 := by
    unfold behindOf
    rw [List.getLast?_append, hf, hl]
    simp
  unfold innerR
  rw [hf, hb]
  simp
theorem alt_cons (a : Run) (r : List Run) : alt (a :: r) = ((match r.head? with | some b => a.1 != b.1 | none => true) && alt r) := by
  cases r with
  | nil => rfl
  | cons b r => rfl
theorem alt_app : ∀ (a b : List Run), alt a = true → alt b = true → (∀ p q, a.getLast? = some p → b.head? = some q → p.1 ≠ q.1) → alt (a ++ b) = true
  | [], b, _, h, _ => h
  | [x], b, _, h, hl => by
    rw [List.singleton_append, alt_cons, h, Bool.and_true]
    cases e : b.head? with
    | none => rfl
    | some q =>
      have := hl x q rfl e
      simpa using this
  | x :: y :: r, b, ha, hb, hl => by
    have ha' : (x.1 != y.1) = true ∧ alt (y :: r) = true := by
      unfold alt at ha
      rw [Bool.and_eq_true] at ha
      exact ha
    have ih := alt_app (y :: r) b ha'.2 hb fun p q e => hl p q (by rw [List.getLast?_cons_cons]; exact e)
    show ((x.1 != y.1) && alt (y :: (r ++ b))) = true
    rw [ha'.1]
    exact ih
theorem alt_rev : ∀ (a : List Run), alt a = true → alt a.reverse = true
  | [], _ => rfl
  | x :: r, h => by
    rw [alt_cons, Bool.and_eq_true] at h
    rw [List.reverse_cons]
    refine alt_app _ _ (alt_rev r h.2) rfl fun p q hp hq => ?_
    cases hq
    rw [List.getLast?_reverse] at hp
    rw [hp] at h
    have h1 := h.1
    dsimp only at h1
    intro e
    rw [e] at h1
    simp at h1
theorem rowOf_app (u : Int) (a b : List Run) : rowOf u (a ++ b) = rowOf u a ++ rowOf u b := by
  unfold rowOf
  rw [List.flatMap_append]
theorem piece_pal (u : Int) (p : Run) : (piece u p).reverse = piece u p := by
  unfold piece
  split
  · split <;> rfl
  · split
    · rfl
    · split <;> rfl
theorem rowOf_rev (u : Int) : ∀ rs : List Run, rowOf u rs.reverse = (rowOf u rs).reverse
  | [] => rfl
  | p :: r => by
    rw [List.reverse_cons, rowOf_app, rowOf_rev u r]
    show (rowOf u r).reverse ++ (piece u p ++ []) = (piece u p ++ rowOf u r).reverse
    rw [List.append_nil, List.reverse_append, piece_pal]
def wideR (by_ : Int) (rs : List Run) : List Run := rs.map fun p => (p.1, p.2 * by_)
theorem lt_mul (t u : Int) {k b : Int} (hb : 0 < b) : (t * b < k * (u * b)) ↔ (t < k * u) := by
  rw [← Int.mul_assoc]
  exact Int.mul_lt_mul_right hb
theorem le_mul (t u : Int) {k b : Int} (hb : 0 < b) : (k * (u * b) ≤ t * b) ↔ (k * u ≤ t) := by
  rw [← Int.mul_assoc]
  exact Int.mul_le_mul_right hb
theorem piece_wide (u b : Int) (hb : 0 < b) (p : Run) : piece (u * b) (p.1, p.2 * b) = piece u p := by
  unfold piece
  simp only [lt_mul _ _ hb, le_mul _ _ hb]
theorem rowOf_wide (u b : Int) (hb : 0 < b) (rs : List Run) : rowOf (u * b) (wideR b rs) = rowOf u rs := by
  unfold rowOf wideR
  rw [List.flatMap_map]
  congr 1
  funext p
  exact piece_wide u b hb p
theorem ab_mul (x b : Int) (hb : 0 < b) : ab (x * b) = b * ab x := by
  unfold ab
  have h : x * b < 0 ↔ x < 0 := by
    have := Int.mul_lt_mul_right (a := b) (b := x) (c := 0) hb
    rw [Int.zero_mul] at this
    exact this
  by_cases hx : x < 0
  · rw [if_pos (h.mpr hx), if_pos hx, Int.mul_neg, Int.mul_comm]
  · rw [if_neg fun z => hx (h.mp z), if_neg hx, Int.mul_comm]
theorem minI_mul (b : Int) (hb : 0 < b) : ∀ (r : List Int) (m : Int), minI (b * m) (r.map (b * ·)) = b * minI m r
  | [], m => rfl
  | x :: r, m => by
    show minI (if b * x < b * m then b * x else b * m) (r.map (b * ·)) = b * minI (if x < m then x else m) r
    have h : b * x < b * m ↔ x < m := Int.mul_lt_mul_left hb
    by_cases hx : x < m
    · rw [if_pos (h.mpr hx), if_pos hx, minI_mul b hb r x]
    · rw [if_neg fun z => hx (h.mp z), if_neg hx, minI_mul b hb r m]
theorem sub_mul3 (t u b k : Int) : t * b - k * (u * b) = (t - k * u) * b := by
  rw [Int.sub_mul, Int.mul_assoc]
theorem offP_wide (u b : Int) (hb : 0 < b) (p : Run) : offP (u * b) (p.1, p.2 * b) = b * offP u p := by
  unfold offP
  simp only [sub_mul3, ab_mul _ _ hb]
  split
  · exact minI_mul b hb [ab (p.2 - 3 * u)] (ab (p.2 - 1 * u))
  · exact minI_mul b hb [ab (p.2 - 3 * u), ab (p.2 - 7 * u)] (ab (p.2 - 1 * u))
theorem offR_wide (u b : Int) (hb : 0 < b) : ∀ (rs : List Run), offR (u * b) (wideR b rs) = b * offR u rs
  | [] => by simp [offR, wideR]
  | p :: r => by
    have ih := offR_wide u b hb r
    have e1 : offR (u * b) (wideR b (p :: r)) = offP (u * b) (p.1, p.2 * b) + offR (u * b) (wideR b r) := by simp [offR, wideR]
    have e2 : offR u (p :: r) = offP u p + offR u r := by simp [offR]
    rw [e1, e2, ih, offP_wide u b hb, Int.mul_add]
theorem wide_alt (b : Int) : ∀ rs : List Run, alt (wideR b rs) = alt rs
  | [] => rfl
  | [_] => rfl
  | x :: y :: r => by
    have ih := wide_alt b (y :: r)
    show ((x.1 != y.1) && alt (wideR b (y :: r))) = ((x.1 != y.1) && alt (y :: r))
    rw [ih]
/-- runs with a tone at both ends -/
structure Tt (rs : List Run) : Prop where
  hd : ∃ p, rs.head? = some p ∧ p.1 = true
  la : ∃ p, rs.getLast? = some p ∧ p.1 = true
  al : alt rs = true
theorem Tt.ne {rs : List Run} (h : Tt rs) : rs ≠ [] := fun e => by
  obtain ⟨p, h1, _⟩ := h.hd
  rw [e] at h1
  cases h1
theorem Tt.inner {rs : List Run} (h : Tt rs) : innerR rs = rs := by
  obtain ⟨p, h1, h2⟩ := h.hd
  obtain ⟨q, h3, h4⟩ := h.la
  exact innerR_id rs p q h1 h3 h2 h4
theorem Tt.rev {rs : List Run} (h : Tt rs) : Tt rs.reverse := by
  obtain ⟨p, h1, h2⟩ := h.hd
  obtain ⟨q, h3, h4⟩ := h.la
  exact ⟨⟨q, by rw [List.head?_reverse]; exact h3, h4⟩, ⟨p, by rw [List.getLast?_reverse]; exact h1, h2⟩, alt_rev _ h.al⟩
theorem Tt.wide {rs : List Run} (h : Tt rs) (b : Int) : Tt (wideR b rs) := by
  obtain ⟨p, h1, h2⟩ := h.hd
  obtain ⟨q, h3, h4⟩ := h.la
  refine ⟨⟨(p.1, p.2 * b), ?_, h2⟩, ⟨(q.1, q.2 * b), ?_, h4⟩, by rw [wide_alt]; exact h.al⟩
  · unfold wideR
    rw [List.head?_map, h1]
    rfl
  · unfold wideR
    rw [List.getLast?_map, h3]
    rfl
theorem Tt.join {a b : List Run} (ha : Tt a) (hb : Tt b) (g : Int) : Tt (a ++ [(false, g)] ++ b) := by
  obtain ⟨p, h1, h2⟩ := ha.hd
  obtain ⟨q, h3, h4⟩ := ha.la
  obtain ⟨p', h5, h6⟩ := hb.hd
  obtain ⟨q', h7, h8⟩ := hb.la
  refine ⟨⟨p, ?_, h2⟩, ⟨q', ?_, h8⟩, ?_⟩
  · rw [List.append_assoc, List.head?_append, h1]
    rfl
  · rw [List.getLast?_append, h7]
    rfl
  · refine alt_app _ _ (alt_app _ _ ha.al rfl fun x y e1 e2 => ?_) hb.al fun x y e1 e2 => ?_
    · rw [h3] at e1
      cases e1
      cases e2
      rw [h4]
      exact Bool.noConfusion
    · rw [List.getLast?_append] at e1
      cases e1
      rw [h5] at e2
      cases e2
      rw [h6]
      exact Bool.noConfusion
theorem Tt.ends {a : List Run} (ha : Tt a) (x y : Int) : alt ([(false, x)] ++ a ++ [(false, y)]) = true := by
  obtain ⟨p, h1, h2⟩ := ha.hd
  obtain ⟨q, h3, h4⟩ := ha.la
  refine alt_app _ _ (alt_app _ _ rfl ha.al fun u v e1 e2 => ?_) rfl fun u v e1 e2 => ?_
  · cases e1
    rw [h1] at e2
    cases e2
    rw [h2]
    exact Bool.noConfusion
  · rw [List.getLast?_append, h3] at e1
    cases e1
    cases e2
    rw [h4]
    exact Bool.noConfusion
end Tk

namespace Tk
open PySem L2 Dn
theorem tf_alt (m : Int) : ∀ (n k : Nat), alt ((List.range' k n).map (tfAt m)) = true
  | 0, _ => rfl
  | 1, _ => rfl
  | n + 2, k => by
    have ih := tf_alt m (n + 1) (k + 1)
    show ((tfAt m k).1 != (tfAt m (k + 1)).1 && alt ((List.range' (k + 1) (n + 1)).map (tfAt m))) = true
    rw [ih, Bool.and_true]
    unfold tfAt
    dsimp only
    by_cases h : (k : Int) % 2 = 0
    · rw [decide_eq_true h, decide_eq_false (by omega)]
      rfl
    · rw [decide_eq_false h, decide_eq_true (by omega)]
      rfl
theorem tf_tick (m : Int) (j : Nat) : 1 ≤ (tfAt m j).2 ∧ (tfAt m j).2 ≤ 40 := by
  unfold tfAt
  dsimp only
  have hw := tfWide_b _ (drawn_nn m j)
  have h1 := Int.emod_nonneg (drawn m j / 8) (show tfWide (drawn m j) ≠ 0 by omega)
  have h2 := Int.emod_lt_of_pos (drawn m j / 8) (show 0 < tfWide (drawn m j) by omega)
  omega
theorem tf_tt (m : Int) (h : 0 ≤ m) : Tt (tf m) := by
  have h1 := Int.emod_nonneg m (show (6 : Int) ≠ 0 by decide)
  have h2 := Int.emod_lt_of_pos m (show (0 : Int) < 6 by decide)
  have hN : ((tfN m : Nat) : Int) = 1 + 2 * (m % 6) := by unfold tfN; omega
  have hpos : 0 < tfN m := by omega
  refine ⟨⟨tfAt m 0, ?_, rfl⟩, ⟨tfAt m (tfN m - 1), ?_, ?_⟩, ?_⟩
  · unfold tf
    rw [List.head?_map, List.head?_range, if_neg (by omega)]
    rfl
  · unfold tf
    rw [List.getLast?_map, List.getLast?_range, if_neg (by omega)]
    rfl
  · unfold tfAt
    dsimp only
    rw [decide_eq_true_eq]
    omega
  · unfold tf
    rw [List.range_eq_range']
    exact tf_alt m _ _
theorem tf_len (m : Int) (h : 0 ≤ m) : (tf m).length ≤ 11 := by
  have h1 := Int.emod_nonneg m (show (6 : Int) ≠ 0 by decide)
  have h2 := Int.emod_lt_of_pos m (show (0 : Int) < 6 by decide)
  unfold tf tfN
  rw [List.length_map, List.length_range]
  omega
theorem tf_mem (m : Int) : ∀ p ∈ tf m, 1 ≤ p.2 ∧ p.2 ≤ 40 := fun p hp => by
  unfold tf at hp
  obtain ⟨j, _, rfl⟩ := List.mem_map.mp hp
  exact tf_tick m j
/-- what the law's runs are -/
structure Dr (rs : List Run) : Prop where
  tt : Tt rs
  len : rs.length ≤ 11
  tick : ∀ p ∈ rs, 1 ≤ p.2 ∧ p.2 ≤ 40
theorem tf_dr (m : Int) (h : 0 ≤ m) : Dr (tf m) := ⟨tf_tt m h, tf_len m h, tf_mem m⟩
theorem Dr.ok {rs : List Run} (h : Dr rs) : OkR rs := ⟨by have := h.len; omega, fun p hp => by have := h.tick p hp; omega, h.tt.al⟩
theorem Dr.okRev {rs : List Run} (h : Dr rs) : OkR rs.reverse := ⟨by have := h.len; rw [List.length_reverse]; omega, fun p hp => by have := h.tick p (List.mem_reverse.mp hp); omega, h.tt.rev.al⟩
theorem Dr.okWide {rs : List Run} (h : Dr rs) (b : Int) (hb : 2 ≤ b ∧ b ≤ 3) : OkR (wideR b rs) := ⟨by have := h.len; unfold wideR; rw [List.length_map]; omega, fun p hp => by
  unfold wideR at hp
  obtain ⟨q, hq, rfl⟩ := List.mem_map.mp hp
  have h1 := h.tick q hq
  dsimp only
  have : b = 2 ∨ b = 3 := by omega
  rcases this with rfl | rfl <;> omega, (h.tt.wide b).al⟩
theorem Dr.okEnds {rs : List Run} (h : Dr rs) (x y : Int) (hx : 1 ≤ x ∧ x ≤ 50) (hy : 1 ≤ y ∧ y ≤ 50) : OkR ([(false, x)] ++ rs ++ [(false, y)]) := ⟨by have := h.len; simp; omega, fun p hp => by
  rcases List.mem_append.mp hp with hp | hp
  · rcases List.mem_append.mp hp with hp | hp
    · have : p = (false, x) := by simpa using hp
      subst this
      exact ⟨hx.1, by show x ≤ 2000; omega⟩
    · have := h.tick p hp
      omega
  · have : p = (false, y) := by simpa using hp
    subst this
    exact ⟨hy.1, by show y ≤ 2000; omega⟩, h.tt.ends x y⟩
theorem Dr.okJoin {a b : List Run} (ha : Dr a) (hb : Dr b) (g : Int) (hg : 1 ≤ g ∧ g ≤ 2000) : OkR (a ++ [(false, g)] ++ b) := ⟨by have := ha.len; have := hb.len; simp; omega, fun p hp => by
  rcases List.mem_append.mp hp with hp | hp
  · rcases List.mem_append.mp hp with hp | hp
    · have := ha.tick p hp
      omega
    · have : p = (false, g) := by simpa using hp
      subst this
      exact hg
  · have := hb.tick p hp
    omega, (ha.tt.join hb.tt g).al⟩
theorem eR_rev (rs : List Run) : PyData.list (rs.map eb).reverse = eR rs.reverse := by
  unfold eR
  rw [List.map_reverse]
theorem eR_join (a b : List Run) : PyData.list (a.map eb ++ b.map eb) = eR (a ++ b) := by
  unfold eR
  rw [List.map_append]
/-- by in [2, 3] -/
theorem by_turn (z0 z1 z2 z4 x7 x8 x9 x10 x11 x12 x13 : SV) (rs : List Run) (u b : Int) (h : Dr rs) (hu : 1 ≤ u ∧ u ≤ 9) (hb : 2 ≤ b ∧ b ≤ 3) :
    ∃ y8, lp_law_2 [z0, z1, z2, .sh (eR rs), z4, .sh (.int u), .sh (.str (st (rowOf u rs))), .sh (.int b), x8, x9, x10, x11, x12, x13, .no, .no] =
      .ok (.nx [z0, z1, z2, .sh (eR rs), z4, .sh (.int u), .sh (.str (st (rowOf u rs))), .sh (.int b), y8, x9, x10, x11, x12, x13, .no, .no]) := by
  unfold lp_law_2
  have m1 : mulD (.int u) (.int b) = .ok (.int (u * b)) := mulD_l _ _ ⟨by omega, by omega⟩
  by_cases hc : u * b < 10
  · refine ⟨.sh (eR (wideR b rs)), ?_⟩
    have hub : 1 ≤ u * b ∧ u * b ≤ 9 := by
      have : 0 < u * b := Int.mul_pos (by omega) (by omega)
      omega
    have hl : lcL (gT 2 (gCn (gN 14) (gCn (gN 15) gNl))) dYes ce_law_1 (wipeE [z0, z1, z2, .sh (eR rs), z4, .sh (.int u), .sh (.str (st (rowOf u rs))), .sh (.int b), x8, x9, x10, x11, x12, x13, .no, .no] [14, 15]) (rs.map eb) = .ok (rs.map fun p => eb (p.1, p.2 * b)) := by
      refine lcL_map _ _ (fun p => ?_) _
      refine ⟨[z0, z1, z2, .sh (eR rs), z4, .sh (.int u), .sh (.str (st (rowOf u rs))), .sh (.int b), x8, x9, x10, x11, x12, x13, .sh (.bool p.1), .sh (.int p.2)], by simp [wipeE, eb], ?_⟩
      unfold ce_law_1
      have m2 : mulD (.int p.2) (.int b) = .ok (.int (p.2 * b)) := mulD_r _ _ ⟨by omega, by omega⟩
      simp [m2, eb]
    have hw : PyData.list (rs.map fun p => eb (p.1, p.2 * b)) = eR (wideR b rs) := by
      unfold eR wideR
      rw [List.map_map]
      rfl
    have hlen := h.len
    have hck : chk (rs.map fun p => eb (p.1, p.2 * b)) = .ok (rs.map fun p => eb (p.1, p.2 * b)) := chk_ok _ (by rw [List.length_map]; unfold szN; omega)
    have hfr : free [z0, z1, z2, .sh (eR rs), z4, .sh (.int u), .sh (.str (st (rowOf u rs))), .sh (.int b), x8, x9, x10, x11, x12, x13, .no, .no] [14, 15] = true := rfl
    have hr := row_heard_ok (wideR b rs) (u * b) (h.okWide b hb) hub
    rw [(h.tt.wide b).inner, rowOf_wide u b (by omega)] at hr
    have ho := off_ok (wideR b rs) (u * b) (h.okWide b hb) hub
    rw [(h.tt.wide b).inner, offR_wide u b (by omega)] at ho
    have ho2 := off_ok rs u h.ok hu
    rw [h.tt.inner] at ho2
    have m3 : mulD (.int b) (.int (offR u rs)) = .ok (.int (b * offR u rs)) := mulD_l _ _ ⟨by omega, by omega⟩
    have hal : asL (eR rs) = .ok (rs.map eb) := rfl
    simp [m1, hc, dLc, hal, hl, hfr, hck, hw, hr, ho, ho2, m3]
  · refine ⟨x8, ?_⟩
    simp [m1, hc]
/-- the five gaps -/
theorem gap_turn (z0 z1 z2 x7 x8 x9 x10 x11 : SV) (a b : List Run) (u g : Int) (w : List Nat) (ha : Dr a) (hb : Dr b) (hu : 1 ≤ u ∧ u ≤ 9) (hg : 1 ≤ g ∧ g ≤ 2000) (hw : piece u (false, g) = w) :
    lp_law_3 [z0, z1, z2, .sh (eR a), .sh (eR b), .sh (.int u), .sh (.str (st (rowOf u a))), x7, x8, x9, x10, x11, .sh (.int g), .sh (.str (st w)), .no, .no] =
      .ok (.nx [z0, z1, z2, .sh (eR a), .sh (eR b), .sh (.int u), .sh (.str (st (rowOf u a))), x7, x8, x9, x10, x11, .sh (.int g), .sh (.str (st w)), .no, .no]) := by
  unfold lp_law_3
  have hj := row_heard_ok _ u (ha.okJoin hb g hg) hu
  rw [(ha.tt.join hb.tt g).inner, rowOf_app, rowOf_app] at hj
  have hp : rowOf u [(false, g)] = w := by
    show piece u (false, g) ++ [] = w
    rw [List.append_nil, hw]
  rw [hp] at hj
  have hr := row_heard_ok b u hb.ok hu
  rw [hb.tt.inner] at hr
  have la := ha.len
  have lb := hb.len
  have e1 : addD (eR a) (.list [.tuple [.bool false, .int g]]) = .ok (eR (a ++ [(false, g)])) := by
    unfold eR
    rw [addD_list _ _ (by simp [szN]; omega), List.map_append]
    rfl
  have e2 : addD (eR (a ++ [(false, g)])) (eR b) = .ok (eR (a ++ [(false, g)] ++ b)) := by
    unfold eR
    rw [addD_list _ _ (by simp [szN]; omega), ← List.map_append]
  have r1 := rowOf_len u a
  have r2 := rowOf_len u b
  have r3 := piece_len u (false, g)
  rw [hw] at r3
  have e3 : addD (.str (st (rowOf u a))) (.str (st w)) = .ok (.str (st (rowOf u a ++ w))) := by
    rw [addD_str _ _ (by rw [st_len, st_len]; unfold szN; omega), st_app]
  have e4 : addD (.str (st (rowOf u a ++ w))) (.str (st (rowOf u b))) = .ok (.str (st (rowOf u a ++ w ++ rowOf u b))) := by
    rw [addD_str _ _ (by rw [st_len, st_len, List.length_append]; unfold szN; omega), st_app]
  generalize eR (a ++ [(false, g)] ++ b) = J at e2 hj
  generalize eR (a ++ [(false, g)]) = J1 at e1 e2
  generalize st (rowOf u a ++ w ++ rowOf u b) = S1 at e4 hj
  generalize st (rowOf u a ++ w) = S2 at e3 e4
  simp [e1, e2, e3, e4, hj, hr]
theorem unit_turn (z0 z1 x6 x7 x8 x9 x10 x11 x12 x13 : SV) (a b : List Run) (u m : Int) (ha : Dr a) (hb : Dr b) (hu : 1 ≤ u ∧ u ≤ 9) :
    ∃ y7 y8 y9 y10 y11 y12 y13 y6, lp_law_4 [z0, z1, .sh (.int m), .sh (eR a), .sh (eR b), .sh (.int u), x6, x7, x8, x9, x10, x11, x12, x13, .no, .no] =
      .ok (.nx [z0, z1, .sh (.int m), .sh (eR a), .sh (eR b), .sh (.int u), y6, y7, y8, y9, y10, y11, y12, y13, .no, .no]) := by
  unfold lp_law_4
  have hr := row_heard_ok a u ha.ok hu
  rw [ha.tt.inner] at hr
  obtain ⟨y8, h2⟩ := by_turn z0 z1 (.sh (.int m)) (.sh (eR b)) x7 x8 x9 x10 x11 x12 x13 a u 2 ha hu (by decide)
  obtain ⟨w8, h3⟩ := by_turn z0 z1 (.sh (.int m)) (.sh (eR b)) x7 y8 x9 x10 x11 x12 x13 a u 3 ha hu (by decide)
  have hloop : loopF (gN 7) lp_law_2 [.int 2, .int 3] [z0, z1, .sh (.int m), .sh (eR a), .sh (eR b), .sh (.int u), .sh (.str (st (rowOf u a))), x7, x8, x9, x10, x11, x12, x13, .no, .no] =
      .ok (.nx [z0, z1, .sh (.int m), .sh (eR a), .sh (eR b), .sh (.int u), .sh (.str (st (rowOf u a))), .sh (.int 3), w8, x9, x10, x11, x12, x13, .no, .no]) := by
    rw [loopF_cons]
    simp only [gN_ap, R.noexc_ok, R.bind_ok, List.set_cons_succ, List.set_cons_zero, h2]
    rw [loopF_cons]
    simp only [gN_ap, R.noexc_ok, R.bind_ok, List.set_cons_succ, List.set_cons_zero, h3, loopF_nil]
  generalize hx : 1 + m / 64 % 50 = x
  generalize hy : 1 + m / 4096 % 50 = y
  have bx : 1 ≤ x ∧ x ≤ 50 := by
    have h1 := Int.emod_nonneg (m / 64) (show (50 : Int) ≠ 0 by decide)
    have h2 := Int.emod_lt_of_pos (m / 64) (show (0 : Int) < 50 by decide)
    omega
  have by_ : 1 ≤ y ∧ y ≤ 50 := by
    have h1 := Int.emod_nonneg (m / 4096) (show (50 : Int) ≠ 0 by decide)
    have h2 := Int.emod_lt_of_pos (m / 4096) (show (0 : Int) < 50 by decide)
    omega
  have f1 : fdivD (.int m) (.int 64) = .ok (.int (m / 64)) := fdivD_int _ _ (by decide)
  have f2 : fdivD (.int m) (.int 4096) = .ok (.int (m / 4096)) := fdivD_int _ _ (by decide)
  have f3 : modD (.int (m / 64)) (.int 50) = .ok (.int (m / 64 % 50)) := modD_int _ _ (by decide)
  have f4 : modD (.int (m / 4096)) (.int 50) = .ok (.int (m / 4096 % 50)) := modD_int _ _ (by decide)
  have la := ha.len
  have e1 : addD (.list [.tuple [.bool false, .int x]]) (eR a) = .ok (eR ([(false, x)] ++ a)) := by
    unfold eR
    rw [addD_list _ _ (by simp [szN]; omega), List.map_append]
    rfl
  have e2 : addD (eR ([(false, x)] ++ a)) (.list [.tuple [.bool false, .int y]]) = .ok (eR ([(false, x)] ++ a ++ [(false, y)])) := by
    unfold eR
    rw [addD_list _ _ (by simp [szN]; omega), List.map_append (l₁ := [(false, x)] ++ a)]
    rfl
  have he := row_heard_ok _ u (ha.okEnds x y bx by_) hu
  rw [innerR_ended _ _ _ ha.tt.ne] at he
  have ho := off_ok _ u (ha.okEnds x y bx by_) hu
  rw [innerR_ended _ _ _ ha.tt.ne] at ho
  have ho2 := off_ok a u ha.ok hu
  rw [ha.tt.inner] at ho2
  have hv := row_heard_ok a.reverse u ha.okRev hu
  rw [ha.tt.rev.inner, rowOf_rev] at hv
  have r1 := rowOf_len u a
  have hrs : revD (.str (st (rowOf u a))) = .ok (.str (st (rowOf u a).reverse)) := by
    rw [revD_str _ (by rw [st_len]; unfold szN; omega), st_rev]
  have hre : revD (eR a) = .ok (eR a.reverse) := by
    unfold eR
    rw [revD_list, List.map_reverse]
  have m2 : mulD (.int 2) (.int u) = .ok (.int (2 * u)) := mulD_l _ _ ⟨by decide, by decide⟩
  have m5 : mulD (.int 5) (.int u) = .ok (.int (5 * u)) := mulD_l _ _ ⟨by decide, by decide⟩
  have t0 : ("": Str) = st [] := by decide
  have t3 : (" / ": Str) = st [32, 47, 32] := by decide
  have t4 : (" ": Str) = st [32] := by decide
  have p1 : piece u (false, 2 * u - 1) = [] := by
    unfold piece
    simp only [Bool.false_eq_true, if_false]
    rw [if_neg (by omega), if_neg (by omega)]
  have p2 : piece u (false, 2 * u) = [32] := by
    unfold piece
    simp only [Bool.false_eq_true, if_false]
    rw [if_neg (by omega), if_pos (by omega)]
  have p3 : piece u (false, 5 * u - 1) = [32] := by
    unfold piece
    simp only [Bool.false_eq_true, if_false]
    rw [if_neg (by omega), if_pos (by omega)]
  have p4 : piece u (false, 5 * u) = [32, 47, 32] := by
    unfold piece
    simp only [Bool.false_eq_true, if_false]
    rw [if_pos (by omega)]
  have p5 : piece u (false, 2000) = [32, 47, 32] := by
    unfold piece
    simp only [Bool.false_eq_true, if_false]
    rw [if_pos (by omega)]
  generalize eR ([(false, x)] ++ a ++ [(false, y)]) = J at e2 he ho
  generalize eR ([(false, x)] ++ a) = J1 at e1 e2
  let ended := SV.sh J
  let gaps := SV.sh (.list [.int (2 * u - 1), .int (2 * u), .int (5 * u - 1), .int (5 * u), .int 2000])
  let sgn := SV.sh (.list [.str (st []), .str (st [32]), .str (st [32]), .str (st [32, 47, 32]), .str (st [32, 47, 32])])
  have G := fun g w hg hw => gap_turn z0 z1 (.sh (.int m)) (.sh (.int 3)) w8 ended gaps sgn a b u g w ha hb hu hg hw
  have hz : zip2 [.list [.int (2 * u - 1), .int (2 * u), .int (5 * u - 1), .int (5 * u), .int 2000], .list [.str (st []), .str (st [32]), .str (st [32]), .str (st [32, 47, 32]), .str (st [32, 47, 32])]] =
    .ok [.tuple [.int (2 * u - 1), .str (st [])], .tuple [.int (2 * u), .str (st [32])], .tuple [.int (5 * u - 1), .str (st [32])], .tuple [.int (5 * u), .str (st [32, 47, 32])], .tuple [.int 2000, .str (st [32, 47, 32])]] := rfl
  have hgl : ∀ x12 x13 : SV, loopF (gT 2 (gCn (gN 12) (gCn (gN 13) gNl))) lp_law_3 [.tuple [.int (2 * u - 1), .str (st [])], .tuple [.int (2 * u), .str (st [32])], .tuple [.int (5 * u - 1), .str (st [32])], .tuple [.int (5 * u), .str (st [32, 47, 32])], .tuple [.int 2000, .str (st [32, 47, 32])]]
      [z0, z1, .sh (.int m), .sh (eR a), .sh (eR b), .sh (.int u), .sh (.str (st (rowOf u a))), .sh (.int 3), w8, ended, gaps, sgn, x12, x13, .no, .no] =
      .ok (.nx [z0, z1, .sh (.int m), .sh (eR a), .sh (eR b), .sh (.int u), .sh (.str (st (rowOf u a))), .sh (.int 3), w8, ended, gaps, sgn, .sh (.int 2000), .sh (.str (st [32, 47, 32])), .no, .no]) := fun x12 x13 => by
    have q1 := G (2 * u - 1) _ (by omega) p1
    have q2 := G (2 * u) _ (by omega) p2
    have q3 := G (5 * u - 1) _ (by omega) p3
    have q4 := G (5 * u) _ (by omega) p4
    have q5 := G 2000 _ (by omega) p5
    simp [loopF_cons, q1, q2, q3, q4, q5]
  refine ⟨.sh (.int 3), w8, ended, gaps, sgn, .sh (.int 2000), .sh (.str (st [32, 47, 32])), .sh (.str (st (rowOf u a))), ?_⟩
  simp [hr, hloop, f1, f2, f3, f4, hx, hy, e1, e2, he, ho, ho2, hv, hrs, hre, m2, m5, t0, t3, t4, hz]
  exact hgl _ _
theorem units_loop (z0 z1 : SV) (a b : List Run) (m : Int) (ha : Dr a) (hb : Dr b) : ∀ (l : List Int), (∀ u ∈ l, 1 ≤ u ∧ u ≤ 9) → ∀ (x5 x6 x7 x8 x9 x10 x11 x12 x13 : SV), ∃ y5 y6 y7 y8 y9 y10 y11 y12 y13,
    loopF (gN 5) lp_law_4 (l.map .int) [z0, z1, .sh (.int m), .sh (eR a), .sh (eR b), x5, x6, x7, x8, x9, x10, x11, x12, x13, .no, .no] = .ok (.nx [z0, z1, .sh (.int m), .sh (eR a), .sh (eR b), y5, y6, y7, y8, y9, y10, y11, y12, y13, .no, .no])
  | [], _, x5, x6, x7, x8, x9, x10, x11, x12, x13 => ⟨x5, x6, x7, x8, x9, x10, x11, x12, x13, rfl⟩
  | u :: r, h, x5, x6, x7, x8, x9, x10, x11, x12, x13 => by
    obtain ⟨y7, y8, y9, y10, y11, y12, y13, y6, h1⟩ := unit_turn z0 z1 x6 x7 x8 x9 x10 x11 x12 x13 a b u m ha hb (h u List.mem_cons_self)
    obtain ⟨w5, w6, w7, w8, w9, w10, w11, w12, w13, h2⟩ := units_loop z0 z1 a b m ha hb r (fun v hv => h v (List.mem_cons_of_mem _ hv)) (.sh (.int u)) y6 y7 y8 y9 y10 y11 y12 y13
    refine ⟨w5, w6, w7, w8, w9, w10, w11, w12, w13, ?_⟩
    rw [List.map_cons, loopF_cons, ← h2]
    simp only [gN_ap, R.noexc_ok, R.bind_ok, List.set_cons_succ, List.set_cons_zero, h1]
theorem cell_turn (ns : List Int) (hn : ns.length ≤ 63) (k : Int) (hk : 0 ≤ k ∧ k < 2 ^ 32) (x2 x3 x4 x5 x6 x7 x8 x9 x10 x11 x12 x13 : SV) : ∃ y2 y3 y4 y5 y6 y7 y8 y9 y10 y11 y12 y13,
    lp_law_5 [.rl (ns.map .int), .sh (.int k), x2, x3, x4, x5, x6, x7, x8, x9, x10, x11, x12, x13, .no, .no] = .ok (.nx [.rl (ns.map .int), .sh (.int k), y2, y3, y4, y5, y6, y7, y8, y9, y10, y11, y12, y13, .no, .no]) := by
  unfold lp_law_5
  generalize hm : drawn (cellF ns k) k = m
  have hc : ∀ (r : List SV), dCell 0 (dVar 1) (.rl (ns.map .int) :: .sh (.int k) :: r) = .ok (.int (cellF ns k)) := fun r => by
    unfold dCell
    simp [asInts_map, hn, hk.1, show k < 4294967296 from hk.2]
  have d1' := tf_dr (drawn m 1) (drawn_nn _ _)
  have d2' := tf_dr (drawn m 2) (drawn_nn _ _)
  obtain ⟨w5, w6, w7, w8, w9, w10, w11, w12, w13, h2⟩ := units_loop (.rl (ns.map .int)) (.sh (.int k)) _ _ m d1' d2' [1, 2, 3, 4, 5, 6, 7, 8, 9] (by decide) x5 x6 x7 x8 x9 x10 x11 x12 x13
  have hr : rng2 [.int 1, .int 10] = .ok (([1, 2, 3, 4, 5, 6, 7, 8, 9] : List Int).map .int) := by
    unfold rng2
    dsimp only
    rw [if_pos (by decide)]
    rfl
  refine ⟨.sh (.int m), .sh (eR (tf (drawn m 1))), .sh (eR (tf (drawn m 2))), w5, w6, w7, w8, w9, w10, w11, w12, w13, ?_⟩
  rw [← h2]
  simp only [sSeq_ap, sAsg_ap, sPar_ap, sFor_ap, dItA_ap, dCall_ap, dCons_ap, dNil_ap, dC_ap, dVar_ap, hc, R.bind_ok, List.getElem?_cons_zero, List.getElem?_cons_succ, drawn_eq, hm, List.set_cons_succ, List.set_cons_zero, tf_eq _ (drawn_nn _ _), hr]
theorem cells_loop (ns : List Int) (hn : ns.length ≤ 63) : ∀ (l : List Nat), (∀ k ∈ l, k < 1000) → ∀ (x1 x2 x3 x4 x5 x6 x7 x8 x9 x10 x11 x12 x13 : SV), ∃ en',
    loopF (gN 1) lp_law_5 (l.map fun (i : Nat) => PyData.int (0 + (i : Int))) [.rl (ns.map .int), x1, x2, x3, x4, x5, x6, x7, x8, x9, x10, x11, x12, x13, .no, .no] = .ok (.nx en')
  | [], _, x1, x2, x3, x4, x5, x6, x7, x8, x9, x10, x11, x12, x13 => ⟨_, rfl⟩
  | k :: r, h, x1, x2, x3, x4, x5, x6, x7, x8, x9, x10, x11, x12, x13 => by
    have hk := h k List.mem_cons_self
    obtain ⟨y2, y3, y4, y5, y6, y7, y8, y9, y10, y11, y12, y13, h1⟩ := cell_turn ns hn (0 + (k : Int)) ⟨by omega, by omega⟩ x2 x3 x4 x5 x6 x7 x8 x9 x10 x11 x12 x13
    obtain ⟨en', h2⟩ := cells_loop ns hn r (fun v hv => h v (List.mem_cons_of_mem _ hv)) (.sh (.int (0 + (k : Int)))) y2 y3 y4 y5 y6 y7 y8 y9 y10 y11 y12 y13
    refine ⟨en', ?_⟩
    rw [List.map_cons, loopF_cons, ← h2]
    simp only [gN_ap, R.noexc_ok, R.bind_ok, List.set_cons_succ, List.set_cons_zero, h1]
theorem law_true (ns : List Int) (h : ns.length ≤ 63) : runL 16 (sNx bd_law) ns = .ok (.bool true) := by
  unfold runL sNx bd_law
  generalize hv : (if (if (ns.length : Int) < 4 then (ns.length : Int) else 4) > 1 then (if (ns.length : Int) < 4 then (ns.length : Int) else 4) else 1) = v
  have bv : 1 ≤ v ∧ v ≤ 4 := by
    rw [← hv]
    split <;> split <;> omega
  have hr : rng1 [.int v] = .ok (rngL 0 v.toNat) := if_pos (by omega)
  obtain ⟨en', hl⟩ := cells_loop ns h (List.range v.toNat) (fun k hk => by have := List.mem_range.mp hk; omega) .no .no .no .no .no .no .no .no .no .no .no .no .no
  have hr2 : rngL 0 v.toNat = (List.range v.toNat).map fun (i : Nat) => PyData.int (0 + (i : Int)) := rfl
  rw [← hr2] at hl
  simp [hv, hr, hl]
end Tk

namespace Tk
open PySem L2 Dn
theorem all_mk {l : PySem.W.OpenLaw} {w : World} {K : PySem.W.Frag} {h : Heap} {mg : Str → Option Value} {fa : Addr} (X : K.In h) (G : h.Ns mainGlobals mg) (hfa : mg "law" = some (.ref fa))
    {f0 : Addr} {od0 an0 : Option Addr} {sl0 : Array (Option Value)} {oc0 kV0 dc0 pm0 cd0 ct0 : Value} {f1 : Addr} {od1 an1 : Option Addr} {sl1 : Array (Option Value)} {oc1 kV1 dc1 pm1 cd1 ct1 : Value} {f2 : Addr} {od2 an2 : Option Addr} {sl2 : Array (Option Value)} {oc2 kV2 dc2 pm2 cd2 ct2 : Value} {f3 : Addr} {od3 an3 : Option Addr} {sl3 : Array (Option Value)} {oc3 kV3 dc3 pm3 cd3 ct3 : Value} {f4 : Addr} {od4 an4 : Option Addr} {sl4 : Array (Option Value)} {oc4 kV4 dc4 pm4 cd4 ct4 : Value} {f5 : Addr} {od5 an5 : Option Addr} {sl5 : Array (Option Value)} {oc5 kV5 dc5 pm5 cd5 ct5 : Value} {f6 : Addr} {od6 an6 : Option Addr} {sl6 : Array (Option Value)} {oc6 kV6 dc6 pm6 cd6 ct6 : Value} {f7 : Addr} {od7 an7 : Option Addr} {sl7 : Array (Option Value)} {oc7 kV7 dc7 pm7 cd7 ct7 : Value} {f8 : Addr} {od8 an8 : Option Addr} {sl8 : Array (Option Value)} {oc8 kV8 dc8 pm8 cd8 ct8 : Value} {f9 : Addr} {od9 an9 : Option Addr} {sl9 : Array (Option Value)} {oc9 kV9 dc9 pm9 cd9 ct9 : Value} {f10 : Addr} {od10 an10 : Option Addr} {sl10 : Array (Option Value)} {oc10 kV10 dc10 pm10 cd10 ct10 : Value} {f11 : Addr} {od11 an11 : Option Addr} {sl11 : Array (Option Value)} {oc11 kV11 dc11 pm11 cd11 ct11 : Value} {f12 : Addr} {od12 an12 : Option Addr} {sl12 : Array (Option Value)} {oc12 kV12 dc12 pm12 cd12 ct12 : Value} {e0 : Addr} {e1 : Addr} {t0 : Tok} {t1 : Tok} {t2 : Tok} {p3 pt3 pf3 : Addr} {h3a h3b : Int} {n3 : Nat} {mt3 mf3 : Nat} {dt3 df3 : Option Addr} {st3 sf3 : Array (Option Value)} {ut3_0 ut3_1 : Tok} {uf3_0 uf3_1 uf3_2 : Tok}
    (a0 : PySem.W.nsIn K mainGlobals "is_count" = some (some (.ref f0)))
    (l0 : K.lookup f0 = some ⟨oc0, od0, .func (PySem.W.fnOf "is_count" "is_count" (defArgs s_is_count) (defBody s_is_count) (defScope s_is_count) .none kV0 dc0 pm0 an0 cd0 ct0), sl0⟩)
    (c0 : PySem.W.codeIn K cd0 "is_count" = true)
    (k0 : PySem.W.keepIn K (.ref f0) = true)
    (a1 : PySem.W.nsIn K mainGlobals "need_unit" = some (some (.ref f1)))
    (l1 : K.lookup f1 = some ⟨oc1, od1, .func (PySem.W.fnOf "need_unit" "need_unit" (defArgs s_need_unit) (defBody s_need_unit) (defScope s_need_unit) .none kV1 dc1 pm1 an1 cd1 ct1), sl1⟩)
    (c1 : PySem.W.codeIn K cd1 "need_unit" = true)
    (k1 : PySem.W.keepIn K (.ref f1) = true)
    (a2 : PySem.W.nsIn K mainGlobals "are_runs" = some (some (.ref f2)))
    (l2 : K.lookup f2 = some ⟨oc2, od2, .func (PySem.W.fnOf "are_runs" "are_runs" (defArgs s_are_runs) (defBody s_are_runs) (defScope s_are_runs) .none kV2 dc2 pm2 an2 cd2 ct2), sl2⟩)
    (c2 : PySem.W.codeIn K cd2 "are_runs" = true)
    (k2 : PySem.W.keepIn K (.ref f2) = true)
    (a3 : PySem.W.nsIn K mainGlobals "need_runs" = some (some (.ref f3)))
    (l3 : K.lookup f3 = some ⟨oc3, od3, .func (PySem.W.fnOf "need_runs" "need_runs" (defArgs s_need_runs) (defBody s_need_runs) (defScope s_need_runs) .none kV3 dc3 pm3 an3 cd3 ct3), sl3⟩)
    (c3 : PySem.W.codeIn K cd3 "need_runs" = true)
    (k3 : PySem.W.keepIn K (.ref f3) = true)
    (a4 : PySem.W.nsIn K mainGlobals "inner" = some (some (.ref f4)))
    (l4 : K.lookup f4 = some ⟨oc4, od4, .func (PySem.W.fnOf "inner" "inner" (defArgs s_inner) (defBody s_inner) (defScope s_inner) .none kV4 dc4 pm4 an4 cd4 ct4), sl4⟩)
    (c4 : PySem.W.codeIn K cd4 "inner" = true)
    (k4 : PySem.W.keepIn K (.ref f4) = true)
    (a5 : PySem.W.nsIn K mainGlobals "row_in" = some (some (.ref f5)))
    (l5 : K.lookup f5 = some ⟨oc5, od5, .func (PySem.W.fnOf "row_in" "row_in" (defArgs s_row_in) (defBody s_row_in) (defScope s_row_in) .none kV5 dc5 pm5 an5 cd5 ct5), sl5⟩)
    (c5 : PySem.W.codeIn K cd5 "row_in" = true)
    (k5 : PySem.W.keepIn K (.ref f5) = true)
    (a6 : PySem.W.nsIn K mainGlobals "row_heard" = some (some (.ref f6)))
    (l6 : K.lookup f6 = some ⟨oc6, od6, .func (PySem.W.fnOf "row_heard" "row_heard" (defArgs s_row_heard) (defBody s_row_heard) (defScope s_row_heard) .none kV6 dc6 pm6 an6 cd6 ct6), sl6⟩)
    (c6 : PySem.W.codeIn K cd6 "row_heard" = true)
    (k6 : PySem.W.keepIn K (.ref f6) = true)
    (a7 : PySem.W.nsIn K mainGlobals "off_by" = some (some (.ref f7)))
    (l7 : K.lookup f7 = some ⟨oc7, od7, .func (PySem.W.fnOf "off_by" "off_by" (defArgs s_off_by) (defBody s_off_by) (defScope s_off_by) .none kV7 dc7 pm7 an7 cd7 ct7), sl7⟩)
    (c7 : PySem.W.codeIn K cd7 "off_by" = true)
    (k7 : PySem.W.keepIn K (.ref f7) = true)
    (a8 : PySem.W.nsIn K mainGlobals "off" = some (some (.ref f8)))
    (l8 : K.lookup f8 = some ⟨oc8, od8, .func (PySem.W.fnOf "off" "off" (defArgs s_off) (defBody s_off) (defScope s_off) .none kV8 dc8 pm8 an8 cd8 ct8), sl8⟩)
    (c8 : PySem.W.codeIn K cd8 "off" = true)
    (k8 : PySem.W.keepIn K (.ref f8) = true)
    (a9 : PySem.W.nsIn K mainGlobals "_law_cell" = some (some (.ref f9)))
    (l9 : K.lookup f9 = some ⟨oc9, od9, .func (PySem.W.fnOf "_law_cell" "_law_cell" (defArgs s__law_cell) (defBody s__law_cell) (defScope s__law_cell) .none kV9 dc9 pm9 an9 cd9 ct9), sl9⟩)
    (c9 : PySem.W.codeIn K cd9 "_law_cell" = true)
    (k9 : PySem.W.keepIn K (.ref f9) = true)
    (a10 : PySem.W.nsIn K mainGlobals "_law_drawn" = some (some (.ref f10)))
    (l10 : K.lookup f10 = some ⟨oc10, od10, .func (PySem.W.fnOf "_law_drawn" "_law_drawn" (defArgs s__law_drawn) (defBody s__law_drawn) (defScope s__law_drawn) .none kV10 dc10 pm10 an10 cd10 ct10), sl10⟩)
    (c10 : PySem.W.codeIn K cd10 "_law_drawn" = true)
    (k10 : PySem.W.keepIn K (.ref f10) = true)
    (a11 : PySem.W.nsIn K mainGlobals "_law_tones_first" = some (some (.ref f11)))
    (l11 : K.lookup f11 = some ⟨oc11, od11, .func (PySem.W.fnOf "_law_tones_first" "_law_tones_first" (defArgs s__law_tones_first) (defBody s__law_tones_first) (defScope s__law_tones_first) .none kV11 dc11 pm11 an11 cd11 ct11), sl11⟩)
    (c11 : PySem.W.codeIn K cd11 "_law_tones_first" = true)
    (k11 : PySem.W.keepIn K (.ref f11) = true)
    (a12 : PySem.W.nsIn K mainGlobals "law" = some (some (.ref f12)))
    (l12 : K.lookup f12 = some ⟨oc12, od12, .func (PySem.W.fnOf "law" "law" (defArgs s_law) (defBody s_law) (defScope s_law) .none kV12 dc12 pm12 an12 cd12 ct12), sl12⟩)
    (c12 : PySem.W.codeIn K cd12 "law" = true)
    (k12 : PySem.W.keepIn K (.ref f12) = true)
    (ea0 : PySem.W.nsIn K mainGlobals "BadNumber" = some (some (.ref e0)))
    (ex0 : PySem.W.excIn K e0 [.type "ValueError", .type "Exception", .type "BaseException", .type "object"] "ValueError.__new__" = true)
    (ek0 : PySem.W.keepIn K (.ref e0) = true)
    (eb0 : PySem.W.subIn K (.ref e0) (.type "BaseException") = some true)
    (et0 : PySem.W.typeIn K (.ref e0) = some (.type "type"))
    (ea1 : PySem.W.nsIn K mainGlobals "BadRuns" = some (some (.ref e1)))
    (ex1 : PySem.W.excIn K e1 [.type "ValueError", .type "Exception", .type "BaseException", .type "object"] "ValueError.__new__" = true)
    (ek1 : PySem.W.keepIn K (.ref e1) = true)
    (eb1 : PySem.W.subIn K (.ref e1) (.type "BaseException") = some true)
    (et1 : PySem.W.typeIn K (.ref e1) = some (.type "type"))
    (z_abs : PySem.W.nsIn K mainGlobals "abs" = some none)
    (z_any : PySem.W.nsIn K mainGlobals "any" = some none)
    (z_bool : PySem.W.nsIn K mainGlobals "bool" = some none)
    (z_int : PySem.W.nsIn K mainGlobals "int" = some none)
    (z_isinstance : PySem.W.nsIn K mainGlobals "isinstance" = some none)
    (z_len : PySem.W.nsIn K mainGlobals "len" = some none)
    (z_list : PySem.W.nsIn K mainGlobals "list" = some none)
    (z_max : PySem.W.nsIn K mainGlobals "max" = some none)
    (z_min : PySem.W.nsIn K mainGlobals "min" = some none)
    (z_range : PySem.W.nsIn K mainGlobals "range" = some none)
    (z_sum : PySem.W.nsIn K mainGlobals "sum" = some none)
    (z_tuple : PySem.W.nsIn K mainGlobals "tuple" = some none)
    (z_zip : PySem.W.nsIn K mainGlobals "zip" = some none)
    (cc0 : PySem.W.nsIn K mainGlobals "MOST_UNIT" = some (some (.int 9 t0)))
    (cc1 : PySem.W.nsIn K mainGlobals "MOST_RUNS" = some (some (.int 1000 t1)))
    (cc2 : PySem.W.nsIn K mainGlobals "MOST_LONG" = some (some (.int 2000 t2)))
    (cc3 : PySem.W.nsIn K mainGlobals "NOMINAL" = some (some (.ref p3)))
    (cl3 : K.lookup p3 = some ⟨.type "dict", none, .dict #[⟨h3a, .bool true, .ref pt3⟩, ⟨h3b, .bool false, .ref pf3⟩] n3, #[]⟩)
    (cb3 : leafB [⟨h3a, .bool true, .ref pt3⟩, ⟨h3b, .bool false, .ref pf3⟩] = true)
    (ct3 : K.lookup pt3 = some ⟨.type "tuple", dt3, .seq #[.int 1 ut3_0, .int 3 ut3_1] mt3, st3⟩)
    (cf3 : K.lookup pf3 = some ⟨.type "tuple", df3, .seq #[.int 1 uf3_0, .int 3 uf3_1, .int 7 uf3_2] mf3, sf3⟩) :
    ∃ fd : FuncData, (∀ (s : Shared) (v : Value), BindsTo s fd ⟨[v], []⟩ [("script", v)]) ∧ ∀ base : Heap, K.In base → base.Ns mainGlobals mg → FnOk l.prog w K mg base (L2.CX l.prog w) 5 fa fd ["script"] (spLaw K) := by
  have e := hfa.symm.trans (PySem.W.mg_of X G a12)
  cases e
  have F0 := fun_mk (st := s_is_count) l0 c0 k0
  have F1 := fun_mk (st := s_need_unit) l1 c1 k1
  have F2 := fun_mk (st := s_are_runs) l2 c2 k2
  have F3 := fun_mk (st := s_need_runs) l3 c3 k3
  have F4 := fun_mk (st := s_inner) l4 c4 k4
  have F5 := fun_mk (st := s_row_in) l5 c5 k5
  have F6 := fun_mk (st := s_row_heard) l6 c6 k6
  have F7 := fun_mk (st := s_off_by) l7 c7 k7
  have F8 := fun_mk (st := s_off) l8 c8 k8
  have F9 := fun_mk (st := s__law_cell) l9 c9 k9
  have F10 := fun_mk (st := s__law_drawn) l10 c10 k10
  have F11 := fun_mk (st := s__law_tones_first) l11 c11 k11
  have F12 := fun_mk (st := s_law) l12 c12 k12
  have b0 := F0.binds (ps := ["thing", "low", "high"]) fun _ _ _ _ _ _ us hl => match us, hl with | [_, _, _], _ => rfl
  have b1 := F1.binds (ps := ["unit"]) fun _ _ _ _ _ _ us hl => match us, hl with | [_], _ => rfl
  have b2 := F2.binds (ps := ["thing"]) fun _ _ _ _ _ _ us hl => match us, hl with | [_], _ => rfl
  have b3 := F3.binds (ps := ["some"]) fun _ _ _ _ _ _ us hl => match us, hl with | [_], _ => rfl
  have b4 := F4.binds (ps := ["some"]) fun _ _ _ _ _ _ us hl => match us, hl with | [_], _ => rfl
  have b5 := F5.binds (ps := ["some", "unit"]) fun _ _ _ _ _ _ us hl => match us, hl with | [_, _], _ => rfl
  have b6 := F6.binds (ps := ["some", "unit"]) fun _ _ _ _ _ _ us hl => match us, hl with | [_, _], _ => rfl
  have b7 := F7.binds (ps := ["some", "unit"]) fun _ _ _ _ _ _ us hl => match us, hl with | [_, _], _ => rfl
  have b8 := F8.binds (ps := ["some", "unit"]) fun _ _ _ _ _ _ us hl => match us, hl with | [_, _], _ => rfl
  have b9 := F9.binds (ps := ["script", "k"]) fun _ _ _ _ _ _ us hl => match us, hl with | [_, _], _ => rfl
  have b10 := F10.binds (ps := ["cell", "k"]) fun _ _ _ _ _ _ us hl => match us, hl with | [_, _], _ => rfl
  have b11 := F11.binds (ps := ["more"]) fun _ _ _ _ _ _ us hl => match us, hl with | [_], _ => rfl
  have b12 := F12.binds (ps := ["script"]) fun _ _ _ _ _ _ us hl => match us, hl with | [_], _ => rfl
  obtain ⟨cl, hc0, hc1⟩ : ∃ cl : Str → Addr, cl "BadNumber" = e0 ∧ cl "BadRuns" = e1 := ⟨fun s => if s = "BadNumber" then e0 else if s = "BadRuns" then e1 else 0, (by dsimp only; rw [if_pos rfl]), (by dsimp only; rw [if_neg (by decide), if_pos rfl])⟩
  have T : Txt K mg cl (A := ⟨f0, f1, f2, f3, f4, f5, f6, f7, f8, f9, f10, f11, fa⟩) (D := ⟨_, _, _, _, _, _, _, _, _, _, _, _, _⟩) := { z_abs := PySem.W.mg_none_of X G z_abs, z_any := PySem.W.mg_none_of X G z_any, z_bool := PySem.W.mg_none_of X G z_bool, z_int := PySem.W.mg_none_of X G z_int, z_isinstance := PySem.W.mg_none_of X G z_isinstance, z_len := PySem.W.mg_none_of X G z_len, z_list := PySem.W.mg_none_of X G z_list, z_max := PySem.W.mg_none_of X G z_max, z_min := PySem.W.mg_none_of X G z_min, z_range := PySem.W.mg_none_of X G z_range, z_sum := PySem.W.mg_none_of X G z_sum, z_tuple := PySem.W.mg_none_of X G z_tuple, z_zip := PySem.W.mg_none_of X G z_zip, F_is_count := F0, g_is_count := PySem.W.mg_of X G a0, b_is_count := b0, F_need_unit := F1, g_need_unit := PySem.W.mg_of X G a1, b_need_unit := b1, F_are_runs := F2, g_are_runs := PySem.W.mg_of X G a2, b_are_runs := b2, F_need_runs := F3, g_need_runs := PySem.W.mg_of X G a3, b_need_runs := b3, F_inner := F4, g_inner := PySem.W.mg_of X G a4, b_inner := b4, F_row_in := F5, g_row_in := PySem.W.mg_of X G a5, b_row_in := b5, F_row_heard := F6, g_row_heard := PySem.W.mg_of X G a6, b_row_heard := b6, F_off_by := F7, g_off_by := PySem.W.mg_of X G a7, b_off_by := b7, F_off := F8, g_off := PySem.W.mg_of X G a8, b_off := b8, F__law_cell := F9, g__law_cell := PySem.W.mg_of X G a9, b__law_cell := b9, F__law_drawn := F10, g__law_drawn := PySem.W.mg_of X G a10, b__law_drawn := b10, F__law_tones_first := F11, g__law_tones_first := PySem.W.mg_of X G a11, b__law_tones_first := b11, F_law := F12, g_law := PySem.W.mg_of X G a12, b_law := b12, ge_BadNumber := (by rw [hc0]; exact PySem.W.mg_of X G ea0), x_BadNumber := (by rw [hc0]; exact ex0), k_BadNumber := (by rw [hc0]; exact ek0), eb_BadNumber := (by rw [hc0]; exact eb0), t_BadNumber := (by rw [hc0]; exact et0), ge_BadRuns := (by rw [hc1]; exact PySem.W.mg_of X G ea1), x_BadRuns := (by rw [hc1]; exact ex1), k_BadRuns := (by rw [hc1]; exact ek1), eb_BadRuns := (by rw [hc1]; exact eb1), t_BadRuns := (by rw [hc1]; exact et1), c_MOST_UNIT := ⟨⟨_, PySem.W.mg_of X G cc0, ⟨_, rfl⟩⟩⟩, c_MOST_RUNS := ⟨⟨_, PySem.W.mg_of X G cc1, ⟨_, rfl⟩⟩⟩, c_MOST_LONG := ⟨⟨_, PySem.W.mg_of X G cc2, ⟨_, rfl⟩⟩⟩, k_NOMINAL := ⟨⟨p3, fun b => if b = true then .ref pt3 else .ref pf3, PySem.W.mg_of X G cc3, ⟨⟨_, _, cl3, cb3, fun b => by cases b <;> exact ⟨_, rfl, rfl⟩⟩⟩, fun H => Rp.tup (xs := [.int 1, .int 3]) (.inr ⟨_, _, _, ct3, rfl, rfl, (by show 2 ≤ sizeLine; decide), (.cons ⟨_, rfl⟩ (.cons ⟨_, rfl⟩ .nil))⟩) (.cons (.int _) (.cons (.int _) .nil)), fun H => Rp.tup (xs := [.int 1, .int 3, .int 7]) (.inr ⟨_, _, _, cf3, rfl, rfl, (by show 3 ≤ sizeLine; decide), (.cons ⟨_, rfl⟩ (.cons ⟨_, rfl⟩ (.cons ⟨_, rfl⟩ .nil)))⟩) (.cons (.int _) (.cons (.int _) (.cons (.int _) .nil)))⟩⟩ }
  exact ⟨_, fun s v => .of_eq rfl, fun base _ _ => ok_law T law_true⟩
end Tk
open PySem PySem.W PyProof.Rows
set_option maxHeartbeats 0 in
theorem PySem.Challenge.cw_twokeys_k33_whole_runs_stretched_holds : PySem.Challenge.rw_twokeys_k33_whole_runs_stretched.Holds := by
  w_on; o_law; k_head; (case hw => w_witness2)
  k_fill
  refine L2.walk_of (l := PySem.Challenge.rw_twokeys_k33_whole_runs_stretched) (n := 63) (k := 5) (x := "script") (CX := fun w => L2.CX PySem.Challenge.rw_twokeys_k33_whole_runs_stretched.prog w) (sp := fun w => Dn.spLaw _) rfl (by decide) rfl ⟨rfl, by decide, by decide⟩ (fun w h Y => PySem.W.kIn_of Y) ?F (fun _ _ a ns hl _ hS => ⟨a, ns, rfl, hS, hl, fun _ => rfl⟩) (fun _ _ _ _ _ h => Dn.cx_false h)
  case F =>
    intro w mg fa h KX G hmg
    refine' Tk.all_mk KX G hmg ?a0 ?l0 ?c0 ?k0 ?a1 ?l1 ?c1 ?k1 ?a2 ?l2 ?c2 ?k2 ?a3 ?l3 ?c3 ?k3 ?a4 ?l4 ?c4 ?k4 ?a5 ?l5 ?c5 ?k5 ?a6 ?l6 ?c6 ?k6 ?a7 ?l7 ?c7 ?k7 ?a8 ?l8 ?c8 ?k8 ?a9 ?l9 ?c9 ?k9 ?a10 ?l10 ?c10 ?k10 ?a11 ?l11 ?c11 ?k11 ?a12 ?l12 ?c12 ?k12 ?ea0 ?ex0 ?ek0 ?eb0 ?et0 ?ea1 ?ex1 ?ek1 ?eb1 ?et1 ?z_abs ?z_any ?z_bool ?z_int ?z_isinstance ?z_len ?z_list ?z_max ?z_min ?z_range ?z_sum ?z_tuple ?z_zip ?cc0 ?cc1 ?cc2 ?cc3 ?cl3 ?cb3 ?ct3 ?cf3
    (case a0 => first | k_is | k_exc | decide +kernel); (case l0 => first | k_is | k_exc | decide +kernel); (case c0 => first | k_is | k_exc | decide +kernel); (case k0 => first | k_is | k_exc | decide +kernel); (case a1 => first | k_is | k_exc | decide +kernel); (case l1 => first | k_is | k_exc | decide +kernel); (case c1 => first | k_is | k_exc | decide +kernel); (case k1 => first | k_is | k_exc | decide +kernel); (case a2 => first | k_is | k_exc | decide +kernel); (case l2 => first | k_is | k_exc | decide +kernel); (case c2 => first | k_is | k_exc | decide +kernel); (case k2 => first | k_is | k_exc | decide +kernel); (case a3 => first | k_is | k_exc | decide +kernel); (case l3 => first | k_is | k_exc | decide +kernel); (case c3 => first | k_is | k_exc | decide +kernel); (case k3 => first | k_is | k_exc | decide +kernel); (case a4 => first | k_is | k_exc | decide +kernel); (case l4 => first | k_is | k_exc | decide +kernel); (case c4 => first | k_is | k_exc | decide +kernel); (case k4 => first | k_is | k_exc | decide +kernel); (case a5 => first | k_is | k_exc | decide +kernel); (case l5 => first | k_is | k_exc | decide +kernel); (case c5 => first | k_is | k_exc | decide +kernel); (case k5 => first | k_is | k_exc | decide +kernel); (case a6 => first | k_is | k_exc | decide +kernel); (case l6 => first | k_is | k_exc | decide +kernel); (case c6 => first | k_is | k_exc | decide +kernel); (case k6 => first | k_is | k_exc | decide +kernel); (case a7 => first | k_is | k_exc | decide +kernel); (case l7 => first | k_is | k_exc | decide +kernel); (case c7 => first | k_is | k_exc | decide +kernel); (case k7 => first | k_is | k_exc | decide +kernel); (case a8 => first | k_is | k_exc | decide +kernel); (case l8 => first | k_is | k_exc | decide +kernel); (case c8 => first | k_is | k_exc | decide +kernel); (case k8 => first | k_is | k_exc | decide +kernel); (case a9 => first | k_is | k_exc | decide +kernel); (case l9 => first | k_is | k_exc | decide +kernel); (case c9 => first | k_is | k_exc | decide +kernel); (case k9 => first | k_is | k_exc | decide +kernel); (case a10 => first | k_is | k_exc | decide +kernel); (case l10 => first | k_is | k_exc | decide +kernel); (case c10 => first | k_is | k_exc | decide +kernel); (case k10 => first | k_is | k_exc | decide +kernel); (case a11 => first | k_is | k_exc | decide +kernel); (case l11 => first | k_is | k_exc | decide +kernel); (case c11 => first | k_is | k_exc | decide +kernel); (case k11 => first | k_is | k_exc | decide +kernel); (case a12 => first | k_is | k_exc | decide +kernel); (case l12 => first | k_is | k_exc | decide +kernel); (case c12 => first | k_is | k_exc | decide +kernel); (case k12 => first | k_is | k_exc | decide +kernel); (case ea0 => first | k_is | k_exc | decide +kernel); (case ex0 => first | k_is | k_exc | decide +kernel); (case ek0 => first | k_is | k_exc | decide +kernel); (case eb0 => first | k_is | k_exc | decide +kernel); (case et0 => first | k_is | k_exc | decide +kernel); (case ea1 => first | k_is | k_exc | decide +kernel); (case ex1 => first | k_is | k_exc | decide +kernel); (case ek1 => first | k_is | k_exc | decide +kernel); (case eb1 => first | k_is | k_exc | decide +kernel); (case et1 => first | k_is | k_exc | decide +kernel); (case z_abs => first | k_is | k_exc | decide +kernel); (case z_any => first | k_is | k_exc | decide +kernel); (case z_bool => first | k_is | k_exc | decide +kernel); (case z_int => first | k_is | k_exc | decide +kernel); (case z_isinstance => first | k_is | k_exc | decide +kernel); (case z_len => first | k_is | k_exc | decide +kernel); (case z_list => first | k_is | k_exc | decide +kernel); (case z_max => first | k_is | k_exc | decide +kernel); (case z_min => first | k_is | k_exc | decide +kernel); (case z_range => first | k_is | k_exc | decide +kernel); (case z_sum => first | k_is | k_exc | decide +kernel); (case z_tuple => first | k_is | k_exc | decide +kernel); (case z_zip => first | k_is | k_exc | decide +kernel); (case cc0 => first | k_is | k_exc | decide +kernel); (case cc1 => first | k_is | k_exc | decide +kernel); (case cc2 => first | k_is | k_exc | decide +kernel); (case cc3 => first | k_is | k_exc | decide +kernel); (case cl3 => first | k_is | k_exc | decide +kernel); (case cb3 => first | k_is | k_exc | decide +kernel); (case ct3 => first | k_is | k_exc | decide +kernel); (case cf3 => first | k_is | k_exc | decide +kernel)
