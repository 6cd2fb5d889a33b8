import PyProof.Rows.All
import Wide.All
import OpenK.AllK
import Wide.FinOn
import PySem.Challenge.RW_twokeys_k52_whole_holds_played
import HandS.ForMost
import HandS.ForExc
import HandS.Lambda
import HandS.SetBool
import PyProof.DictRoadsH
import HandS.Wide
import HandS.IsInst
import HandS.More
import HandS.TupLe
import HandS.Zip
import HandS.ExcCtx
import HandS.Style
import KE.KDictCopyH
import HandS.Iter
import HandS.Dict
import HandS.DictEq
import HandS.DictComp
import HandS.Text
import HandS.Conv
import HandS.Replace
import HandS.Strs
import HandS.SetKeys
import KE.GoesMore
import PyProof.EnumMake
import PyProof.Rows.SortStr
import PyProof.StrLawsChain
import HandS.HotCalls
import HandS.ExcIs
import HandS.ExcValue
import HandS.EndTab
import PyProof.StrOps2
import PyProof.P3Eq
import KE.GoesZip
import KE.GoesEnum
import KE.DataCmp
import KE.DataMinMax
import KE.SortData
import KE.SortKeyHeap
import HandS.Walk
import KE.KDictDisplayH
import PyProof.Rows.TupDisplay
import PyProof.Rows.TupTab
import PyProof.StrWalks
set_option Elab.async false
set_option linter.all false
set_option autoImplicit false
set_option maxRecDepth 100000
set_option maxHeartbeats 4000000
/-! Data over the abstract heap: what a value stands for, slots that own lists and dicts, and what expressions and statements come to. -/
namespace Dn
open PySem L2
open Classical (propDecidable)

abbrev PD := PyData
/-- an equation that simp shall not take for a step of computation -/
theorem nrf {a : Sort _} {x y : a} (h : x = y) : x = y := h
/-! ### results -/
inductive R (a : Type) where
  | ok (x : a)
  | exc (c : Str)
  | stuck
namespace R
def bind {a b : Type} (r : R a) (f : a → R b) : R b := match r with
  | .ok x => f x
  | .exc c => .exc c
  | .stuck => .stuck
@[simp] theorem bind_ok {a b : Type} (x : a) (f : a → R b) : R.bind (.ok x) f = f x := nrf rfl
@[simp] theorem bind_exc {a b : Type} (c : Str) (f : a → R b) : R.bind (.exc c) f = .exc c := nrf rfl
@[simp] theorem bind_stuck {a b : Type} (f : a → R b) : R.bind .stuck f = .stuck := nrf rfl
def noexc {a : Type} : R a → R a
  | .exc _ => .stuck
  | r => r
@[simp] theorem noexc_ok {a : Type} (x : a) : R.noexc (.ok x) = .ok x := nrf rfl
end R

/-! ### what a value stands for -/
def kD : Key → PD
  | .inl i => .int i
  | .inr x => .str x
mutual
inductive Rp (K : PySem.W.Frag) (H : Hp) : V → PD → Prop
  | non : Rp K H .non .none
  | bl (b : Bool) : Rp K H (.bl b) (.bool b)
  | int (i : Int) : Rp K H (.int i) (.int i)
  | str (x : Str) : Rp K H (.str x) (.str x)
  | lst {a : Addr} {xs : List V} {ds : List PD} : H a = some (.lst xs) → RpA K H xs ds → Rp K H (.ref a) (.list ds)
  | tup {a : Addr} {xs : List V} {ds : List PD} : SqT K H a xs → RpA K H xs ds → Rp K H (.ref a) (.tuple ds)
  | dct {a : Addr} {kvs : List (Key × V)} {es : List (PD × PD)} : Rd H a (.dK kvs) → RpK K H kvs es → Rp K H (.ref a) (.dict es)
inductive RpA (K : PySem.W.Frag) (H : Hp) : List V → List PD → Prop
  | nil : RpA K H [] []
  | cons {v : V} {vs : List V} {d : PD} {ds : List PD} : Rp K H v d → RpA K H vs ds → RpA K H (v :: vs) (d :: ds)
inductive RpK (K : PySem.W.Frag) (H : Hp) : List (Key × V) → List (PD × PD) → Prop
  | nil : RpK K H [] []
  | cons {k : Key} {v : V} {vs : List (Key × V)} {d : PD} {ds : List (PD × PD)} : Rp K H v d → RpK K H vs ds → RpK K H ((k, v) :: vs) ((kD k, d) :: ds)
end

/-- what is read stays -/
structure LeR (K : PySem.W.Frag) (H H' : Hp) : Prop where
  l : ∀ a xs, H a = some (.lst xs) → H' a = some (.lst xs)
  t : ∀ a xs, SqT K H a xs → SqT K H' a xs
  d : ∀ a kvs, Rd H a (.dK kvs) → Rd H' a (.dK kvs)
mutual
theorem Rp.mono {K : PySem.W.Frag} {H H' : Hp} (e : LeR K H H') : ∀ {v : V} {d : PD}, Rp K H v d → Rp K H' v d
  | _, _, .non => .non
  | _, _, .bl b => .bl b
  | _, _, .int i => .int i
  | _, _, .str x => .str x
  | _, _, .lst h r => .lst (e.l _ _ h) (RpA.mono e r)
  | _, _, .tup h r => .tup (e.t _ _ h) (RpA.mono e r)
  | _, _, .dct h r => .dct (e.d _ _ h) (RpK.mono e r)
theorem RpA.mono {K : PySem.W.Frag} {H H' : Hp} (e : LeR K H H') : ∀ {v : List V} {d : List PD}, RpA K H v d → RpA K H' v d
  | _, _, .nil => .nil
  | _, _, .cons h r => .cons (Rp.mono e h) (RpA.mono e r)
theorem RpK.mono {K : PySem.W.Frag} {H H' : Hp} (e : LeR K H H') : ∀ {v : List (Key × V)} {d : List (PD × PD)}, RpK K H v d → RpK K H' v d
  | _, _, .nil => .nil
  | _, _, .cons h r => .cons (Rp.mono e h) (RpK.mono e r)
end
theorem RpA.length {K : PySem.W.Frag} {H : Hp} : ∀ {vs : List V} {ds : List PD}, RpA K H vs ds → vs.length = ds.length
  | _, _, .nil => rfl
  | _, _, .cons _ r => by simp [r.length]
theorem RpK.length {K : PySem.W.Frag} {H : Hp} : ∀ {vs : List (Key × V)} {ds : List (PD × PD)}, RpK K H vs ds → vs.length = ds.length
  | _, _, .nil => rfl
  | _, _, .cons _ r => by simp [r.length]
theorem RpA.app {K : PySem.W.Frag} {H : Hp} : ∀ {vs ws : List V} {ds es : List PD}, RpA K H vs ds → RpA K H ws es → RpA K H (vs ++ ws) (ds ++ es)
  | _, _, _, _, .nil, s => s
  | _, _, _, _, .cons h r, s => .cons h (RpA.app r s)
theorem RpA.get {K : PySem.W.Frag} {H : Hp} : ∀ {vs : List V} {ds : List PD} {i : Nat} {d : PD}, RpA K H vs ds → ds[i]? = some d → ∃ v, vs[i]? = some v ∧ Rp K H v d
  | _, _, _, _, .nil, h => by simp at h
  | _, _, 0, _, .cons h _, e => by simp at e; subst e; exact ⟨_, rfl, h⟩
  | _, _, i + 1, _, .cons _ r, e => by
    obtain ⟨v, h1, h2⟩ := RpA.get (i := i) r (by simpa using e)
    exact ⟨v, by simpa using h1, h2⟩
theorem RpA.getV {K : PySem.W.Frag} {H : Hp} : ∀ {vs : List V} {ds : List PD} {i : Nat} {v : V}, RpA K H vs ds → vs[i]? = some v → ∃ d, ds[i]? = some d ∧ Rp K H v d
  | _, _, _, _, .nil, h => by simp at h
  | _, _, 0, _, .cons h _, e => by simp at e; subst e; exact ⟨_, rfl, h⟩
  | _, _, i + 1, _, .cons _ r, e => by
    obtain ⟨v, h1, h2⟩ := RpA.getV (i := i) r (by simpa using e)
    exact ⟨v, by simpa using h1, h2⟩
theorem RpA.take {K : PySem.W.Frag} {H : Hp} : ∀ (n : Nat) {vs : List V} {ds : List PD}, RpA K H vs ds → RpA K H (vs.take n) (ds.take n)
  | 0, _, _, _ => by simp; exact .nil
  | _ + 1, _, _, .nil => .nil
  | n + 1, _, _, .cons h r => .cons h (RpA.take n r)
theorem RpA.drop {K : PySem.W.Frag} {H : Hp} : ∀ (n : Nat) {vs : List V} {ds : List PD}, RpA K H vs ds → RpA K H (vs.drop n) (ds.drop n)
  | 0, _, _, h => h
  | _ + 1, _, _, .nil => .nil
  | n + 1, _, _, .cons _ r => RpA.drop n r
theorem RpA.set {K : PySem.W.Frag} {H : Hp} {v : V} {d : PD} (h : Rp K H v d) : ∀ (n : Nat) {vs : List V} {ds : List PD}, RpA K H vs ds → RpA K H (vs.set n v) (ds.set n d)
  | _, _, _, .nil => .nil
  | 0, _, _, .cons _ r => .cons h r
  | n + 1, _, _, .cons g r => .cons g (RpA.set h n r)
theorem RpA.erase {K : PySem.W.Frag} {H : Hp} : ∀ (n : Nat) {vs : List V} {ds : List PD}, RpA K H vs ds → RpA K H (vs.eraseIdx n) (ds.eraseIdx n)
  | _, _, _, .nil => .nil
  | 0, _, _, .cons _ r => r
  | n + 1, _, _, .cons g r => .cons g (RpA.erase n r)
theorem RpA.reverse {K : PySem.W.Frag} {H : Hp} : ∀ {vs : List V} {ds : List PD}, RpA K H vs ds → RpA K H vs.reverse ds.reverse
  | _, _, .nil => .nil
  | _, _, .cons h r => by
    rw [List.reverse_cons, List.reverse_cons]
    exact r.reverse.app (.cons h .nil)
theorem RpA.rep {K : PySem.W.Frag} {H : Hp} {vs : List V} {ds : List PD} (h : RpA K H vs ds) : ∀ (n : Nat), RpA K H (List.replicate n vs).flatten (List.replicate n ds).flatten
  | 0 => .nil
  | n + 1 => by
    rw [List.replicate_succ, List.replicate_succ, List.flatten_cons, List.flatten_cons]
    exact h.app (RpA.rep h n)

/-! ### heaps -/
/-- the tables of code objects that lambdas write -/
class Tabl where
  T : List (Addr × Str)
  /-- the classes of objects -/
  C : Str → Addr
  /-- the object whose method runs -/
  me : Addr
def isTb : HO → Bool
  | .tbl _ => true
  | _ => false
/-- all but tables stays as it is -/
structure Ex (H H' : Hp) : Prop where
  k : ∀ a o, H a = some o → isTb o = false → H' a = some o
/-- a thing that is no table stands there; none does -/
def So (H : Hp) (a : Addr) : Prop := ∃ o, H a = some o ∧ isTb o = false
def Nn (H : Hp) (a : Addr) : Prop := ∀ o, H a = some o → isTb o = true
theorem So.ex {H : Hp} {a : Addr} (h : So H a) : ∃ o, H a = some o := let ⟨o, e, _⟩ := h; ⟨o, e⟩
theorem Nn.of {H : Hp} {a : Addr} (h : H a = none) : Nn H a := fun o e => by
  rw [h] at e
  cases e
theorem So.nn {H : Hp} {a : Addr} (h : So H a) (n : Nn H a) : False := by
  obtain ⟨o, e, t⟩ := h
  rw [n o e] at t
  cases t
theorem Ex.so {H H' : Hp} {a : Addr} (e : Ex H H') (h : So H a) : So H' a := let ⟨o, q, t⟩ := h; ⟨o, e.k a o q t, t⟩
theorem Ex.nn {H H' : Hp} {a : Addr} (e : Ex H H') (h : Nn H' a) : Nn H a := fun o q => by
  cases t : isTb o with
  | true => rfl
  | false => rw [h o (e.k a o q t)] at t; cases t
/-- .. and the tables stay right -/
structure Xt [Tabl] (H H' : Hp) : Prop extends Ex H H' where
  t : LamX.Tabs Tabl.T H → LamX.Tabs Tabl.T H'
theorem Ex.refl (H : Hp) : Ex H H := ⟨fun _ _ h _ => h⟩
theorem Ex.trans {H H1 H2 : Hp} (a : Ex H H1) (b : Ex H1 H2) : Ex H H2 := ⟨fun x o h n => b.k x o (a.k x o h n) n⟩
theorem Ex.of {H H' : Hp} (e : ∀ a o, H a = some o → H' a = some o) : Ex H H' := ⟨fun a o h _ => e a o h⟩
theorem Ex.new {H : Hp} {p : Addr} {o : HO} (h : H p = none) : Ex H (upd H p o) := Ex.of fun a u e => by
  rw [upd_ne (ne_of_none e h)]
  exact e
theorem Ex.mut {H H' : Hp} {p : Addr} {o : HO} (e : Ex H H') (h : Nn H p) : Ex H (upd H' p o) := ⟨fun a u ha n => by
  rw [upd_ne fun z => by
    rw [z] at ha
    rw [h u ha] at n
    cases n]
  exact e.k a u ha n⟩
theorem Ex.l {H H' : Hp} {p : Addr} {xs : List V} (e : Ex H H') (h : H p = some (.lst xs)) : H' p = some (.lst xs) := e.k _ _ h rfl
theorem Ex.d {H H' : Hp} {p : Addr} {xs : List (Key × V)} (e : Ex H H') (h : H p = some (.dK xs)) : H' p = some (.dK xs) := e.k _ _ h rfl
section
variable [Tabl]
theorem Xt.refl (H : Hp) : Xt H H := ⟨Ex.refl H, fun h => h⟩
theorem Xt.trans {H H1 H2 : Hp} (a : Xt H H1) (b : Xt H1 H2) : Xt H H2 := ⟨a.toEx.trans b.toEx, fun h => b.t (a.t h)⟩
theorem Xt.new {H : Hp} {p : Addr} {o : HO} (h : H p = none) : Xt H (upd H p o) := ⟨Ex.new h, fun t => t.ext fun a u e => by
  rw [upd_ne (ne_of_none e h)]
  exact e⟩
end
open Classical in
/-- a thing that is no table and no code object is written -/
noncomputable def isLD : HO → Bool
  | .lst _ => true
  | .dK _ => true
  | .ins _ _ _ => true
  | .frz _ _ => true
  | .ext φ => decide (∀ c q, HO.ext φ ≠ LamX.CodeO c q)
  | _ => false
theorem isLD_code (c : Addr) (q : Str) : isLD (LamX.CodeO c q) = false := by
  unfold LamX.CodeO isLD
  exact @decide_eq_false _ (_) fun h => h c q rfl
theorem tabs_wr {T : List (Addr × Str)} {H H' : Hp} {p : Addr} {o0 : HO} (t : LamX.Tabs T H) (h : H p = some o0) (hl : isLD o0 = true) (e : ∀ a, a ≠ p → H' a = H a) : LamX.Tabs T H' := fun q hq => by
  obtain ⟨ps, h1, h2, h3⟩ := t q hq
  have n1 : q.1 ≠ p := fun z => by
    rw [z, h] at h1
    cases h1
    cases hl
  refine ⟨ps, by rw [e _ n1]; exact h1, h2, fun pos cv hc => ?_⟩
  obtain ⟨c, e1, e2⟩ := h3 pos cv hc
  refine ⟨c, e1, ?_⟩
  have n2 : c ≠ p := fun z => by
    rw [z, h] at e2
    have e3 := Option.some.inj e2
    rw [e3, isLD_code] at hl
    cases hl
  rw [e _ n2]
  exact e2
theorem Ex.rd {H H' : Hp} {a : Addr} {u : HO} (e : Ex H H') (h : Rd H a u) (hu : isTb u = false := by rfl) : Rd H' a u := by
  rcases h with h | ⟨o, h⟩
  · exact Or.inl (e.k a _ h hu)
  · exact Or.inr ⟨o, e.k a _ h rfl⟩
theorem Ex.sqt {K : PySem.W.Frag} {H H' : Hp} {a : Addr} {xs : List V} (e : Ex H H') (h : SqT K H a xs) : SqT K H' a xs := by
  rcases h with h | h
  · exact Or.inl (e.rd h)
  · exact Or.inr h
theorem Ex.sql {K : PySem.W.Frag} {H H' : Hp} {a : Addr} {xs : List V} (e : Ex H H') (h : SqL K H a xs) : SqL K H' a xs := by
  rcases h with h | h
  · exact Or.inl (e.rd h)
  · exact Or.inr h
theorem Ex.le {K : PySem.W.Frag} {H H' : Hp} (e : Ex H H') : LeR K H H' := ⟨fun a xs h => e.l h, fun _ _ h => e.sqt h, fun _ _ h => e.rd h⟩

abbrev AS := Addr → Prop
open Classical in
/-- the heap without a set of places -/
noncomputable def hid (H : Hp) (Z : AS) : Hp := fun a => if Z a then none else H a
theorem hid_no {H : Hp} {Z : AS} {a : Addr} (h : Z a) : hid H Z a = none := by
  unfold hid
  rw [if_pos h]
theorem hid_at {H : Hp} {Z : AS} {a : Addr} (h : ¬ Z a) : hid H Z a = H a := by
  unfold hid
  rw [if_neg h]
theorem hid_some {H : Hp} {Z : AS} {a : Addr} {o : HO} (h : hid H Z a = some o) : ¬ Z a ∧ H a = some o := by
  by_cases z : Z a
  · rw [hid_no z] at h
    cases h
  · rw [hid_at z] at h
    exact ⟨z, h⟩
theorem hid_ex {H : Hp} {Z : AS} : Ex (hid H Z) H := Ex.of fun _ _ h => (hid_some h).2
theorem Ex.hidLess {H H' : Hp} {Z Z' : AS} (e : Ex H H') (i : ∀ a, Z' a → Z a) : Ex (Dn.hid H Z) (Dn.hid H' Z') := ⟨fun a o h n => by
  obtain ⟨z, h⟩ := hid_some h
  rw [hid_at fun q => z (i a q)]
  exact e.k a o h n⟩
theorem Ex.hid {H H' : Hp} {Z : AS} (e : Ex H H') : Ex (hid H Z) (hid H' Z) := e.hidLess fun _ z => z
/-- a hidden place is written -/
theorem hid_upd {H : Hp} {Z : AS} {p : Addr} {o : HO} (h : Z p) : hid (upd H p o) Z = hid H Z := by
  funext a
  by_cases z : Z a
  · rw [hid_no z, hid_no z]
  · rw [hid_at z, hid_at z, upd_ne fun e => z (by rw [e]; exact h)]

/-! ### slots -/
/-- what a field holds: data that never change, a list of its own -/
inductive FV where
  | sh (d : PD)
  | ol (ds : List PD)
/-- the hash of two truths -/
def hB2 (ks : List Bool) : Int := reduceHash (Builtin.Tuple.tupleHashOf (ks.map PpSet.hB))
def entB (y : (Bool × Bool) × Addr × Value) : DictEntry := ⟨hB2 [y.1.1, y.1.2], .ref y.2.1, y.2.2⟩
/-- the dict at p by pairs of truths: for each pair its own tuple, what it holds -/
def BdO (p : Addr) (xs : List ((Bool × Bool) × Addr × V)) : HO := .ext fun h => (p == sysModules) = false ∧ xs.length ≤ sizeLine ∧ (xs.map (·.1)).Nodup ∧
  ∃ ys : List ((Bool × Bool) × Addr × Value), Paired (fun (x : (Bool × Bool) × Addr × V) (y : (Bool × Bool) × Addr × Value) => x.1 = y.1 ∧ x.2.1 = y.2.1 ∧ RelV x.2.2 y.2.2) xs ys ∧
    ∃ o es ep, h.get? p = some o ∧ o.ExactDict ∧ o.data = .dict es ep ∧ es.toList = ys.map entB
inductive BdR (K : PySem.W.Frag) (H : Hp) : List ((Bool × Bool) × Addr × V) → List ((Bool × Bool) × PD) → Prop
  | nil : BdR K H [] []
  | cons {k : Bool × Bool} {q : Addr} {v : V} {d : PD} {xs : List ((Bool × Bool) × Addr × V)} {es : List ((Bool × Bool) × PD)} : SqT K H q [.bl k.1, .bl k.2] → Rp K H v d → BdR K H xs es → BdR K H ((k, q, v) :: xs) ((k, d) :: es)
theorem BdR.mono {K : PySem.W.Frag} {H H' : Hp} (e : LeR K H H') : ∀ {xs : List ((Bool × Bool) × Addr × V)} {es : List ((Bool × Bool) × PD)}, BdR K H xs es → BdR K H' xs es
  | _, _, .nil => .nil
  | _, _, .cons a b r => .cons (e.t _ _ a) (b.mono e) (BdR.mono e r)
inductive SV where
  | no
  /-- data that never change -/
  | sh (d : PD)
  /-- a list, a dict that the slot alone has -/
  | ol (ds : List PD)
  | od (es : List (PD × PD))
  /-- a list that is read alone -/
  | rl (ds : List PD)
  /-- a shared dict, locked: it is walked -/
  | fz (es : List (PD × PD))
  /-- the very object at a, whatever it is -/
  | xr (a : Addr)
  /-- an object of a class that the slot alone has (the one whose method runs): its fields by name, what they hold -/
  | ob (m : Bool) (c : Str) (ns : List Str) (fs : List FV)
  /-- an object that is only read: its fields by name, what they hold -/
  | vw (c : Str) (ns : List Str) (ds : List PD)
  /-- a dict by pairs of truths that the slot alone has -/
  | bd (es : List ((Bool × Bool) × PD))
  /-- a dict by pairs of truths that never changes any more -/
  | bz (es : List ((Bool × Bool) × PD))
abbrev En := List SV
def isOwn : SV → Bool
  | .ol _ => true
  | .od _ => true
  | .ob _ _ _ _ => true
  | .bd _ => true
  | _ => false
/-- fields hold what is told; the lists that are theirs -/
inductive FsOk (K : PySem.W.Frag) (Hs H : Hp) (r : AS) : List V → List FV → List Addr → Prop
  | nil : FsOk K Hs H r [] [] []
  | sh {v : V} {d : PD} {vs : List V} {fs : List FV} {L : List Addr} : Rp K Hs v d → FsOk K Hs H r vs fs L → FsOk K Hs H r (v :: vs) (.sh d :: fs) L
  | ol {q : Addr} {xs : List V} {ds : List PD} {vs : List V} {fs : List FV} {L : List Addr} : r q → H q = some (.lst xs) → RpA K Hs xs ds → q ∉ L → FsOk K Hs H r vs fs L → FsOk K Hs H r (.ref q :: vs) (.ol ds :: fs) (q :: L)
theorem FsOk.rg {K : PySem.W.Frag} {Hs H : Hp} {r r' : AS} (i : ∀ a, r a → r' a) : ∀ {vs : List V} {fs : List FV} {L : List Addr}, FsOk K Hs H r vs fs L → FsOk K Hs H r' vs fs L
  | _, _, _, .nil => .nil
  | _, _, _, .sh h t => .sh h (FsOk.rg i t)
  | _, _, _, .ol a b c d t => .ol (i _ a) b c d (FsOk.rg i t)
theorem FsOk.len {K : PySem.W.Frag} {Hs H : Hp} {r : AS} : ∀ {vs : List V} {fs : List FV} {L : List Addr}, FsOk K Hs H r vs fs L → vs.length = fs.length
  | _, _, _, .nil => rfl
  | _, _, _, .sh h t => by simp [FsOk.len t]
  | _, _, _, .ol a b c d t => by simp [FsOk.len t]
theorem FsOk.mono {K : PySem.W.Frag} {Hs Hs' H H' : Hp} {r : AS} (e : LeR K Hs Hs') (k : ∀ p o, r p → H p = some o → isTb o = false → H' p = some o) : ∀ {vs : List V} {fs : List FV} {L : List Addr}, FsOk K Hs H r vs fs L → FsOk K Hs' H' r vs fs L
  | _, _, _, .nil => .nil
  | _, _, _, .sh h t => .sh (h.mono e) (FsOk.mono e k t)
  | _, _, _, .ol a b c d t => .ol a (k _ _ a b rfl) (c.mono e) d (FsOk.mono e k t)

def SlotOk [Tabl] (K : PySem.W.Frag) (Hs H : Hp) (v : Option V) (r : AS) : SV → Prop
  | .no => True
  | .sh d => ∃ x, v = some x ∧ Rp K Hs x d
  | .ol ds => ∃ p xs, v = some (.ref p) ∧ r p ∧ H p = some (.lst xs) ∧ RpA K Hs xs ds
  | .od es => ∃ p kvs, v = some (.ref p) ∧ r p ∧ H p = some (.dK kvs) ∧ RpK K Hs kvs es
  | .rl ds => ∃ p xs, v = some (.ref p) ∧ SqL K Hs p xs ∧ RpA K Hs xs ds
  | .fz es => ∃ p o kvs, v = some (.ref p) ∧ Hs p = some (.frz o (.dK kvs)) ∧ RpK K Hs kvs es
  | .xr a => v = some (.ref a)
  | .ob m c ns fs => ∃ p dx vs L, v = some (.ref p) ∧ (m = true → p = Tabl.me) ∧ r p ∧ H p = some (.ins (Tabl.C c) dx vs) ∧ vs.map (·.1) = ns.take fs.length ∧ FsOk K Hs H r (vs.map (·.2)) fs L
  | .vw c ns ds => ∃ p dx vs, v = some (.ref p) ∧ Hs p = some (.ins (Tabl.C c) dx vs) ∧ vs.map (·.1) = ns.take ds.length ∧ RpA K Hs (vs.map (·.2)) ds
  | .bd es => ∃ p xs, v = some (.ref p) ∧ r p ∧ H p = some (BdO p xs) ∧ BdR K Hs xs es
  | .bz es => ∃ p o xs, v = some (.ref p) ∧ Hs p = some (.frz o (BdO p xs)) ∧ BdR K Hs xs es
theorem SlotOk.rg [Tabl] {K : PySem.W.Frag} {Hs H : Hp} {v : Option V} {r r' : AS} (i : ∀ a, r a → r' a) : ∀ {sv : SV}, SlotOk K Hs H v r sv → SlotOk K Hs H v r' sv
  | .no, _ => trivial
  | .sh _, h => h
  | .ol _, ⟨p, xs, h1, h2, h3⟩ => ⟨p, xs, h1, i p h2, h3⟩
  | .od _, ⟨p, xs, h1, h2, h3⟩ => ⟨p, xs, h1, i p h2, h3⟩
  | .rl _, h => h
  | .fz _, h => h
  | .xr _, h => h
  | .ob _ _ _ _, ⟨p, dx, vs, L, h1, h2, h3, h4, h5, h6⟩ => ⟨p, dx, vs, L, h1, h2, i p h3, h4, h5, h6.rg i⟩
  | .vw _ _ _, h => h
  | .bd _, ⟨p, xs, h1, h2, h3⟩ => ⟨p, xs, h1, i p h2, h3⟩
  | .bz _, h => h

def own (ext : AS) (reg : Nat → AS) : AS := fun a => ext a ∨ ∃ i, reg i a

structure RS [Tabl] (K : PySem.W.Frag) (H0 : Hp) (ext : AS) (reg : Nat → AS) (en : En) (σ : St) (H : Hp) : Prop where
  le : Ex H0 H
  tb : LamX.Tabs Tabl.T H
  exd : ∀ a, ext a → So H0 a
  rg : ∀ i a, reg i a → Nn H0 a ∧ So H a
  dj : ∀ i j a, reg i a → reg j a → i = j
  ro : ∀ i a, reg i a → ∃ sv, en[i]? = some sv ∧ isOwn sv = true
  len : σ.length = en.length
  sl : ∀ i sv, en[i]? = some sv → ∃ v, σ[i]? = some v ∧ SlotOk K (hid H (own ext reg)) H v (reg i) sv

section
variable [Tabl] {K : PySem.W.Frag} {H0 H H' : Hp} {ext : AS} {reg : Nat → AS} {en : En} {σ : St}
theorem RS.so (r : RS K H0 ext reg en σ H) {a : Addr} (h : own ext reg a) : So H a := by
  rcases h with h | ⟨i, h⟩
  · exact r.le.so (r.exd a h)
  · exact (r.rg i a h).2
theorem RS.there (r : RS K H0 ext reg en σ H) {a : Addr} (h : own ext reg a) : ∃ o, H a = some o := (r.so h).ex
theorem RS.fresh (r : RS K H0 ext reg en σ H) {p : Addr} (h : H p = none) : ¬ own ext reg p := fun z => by
  obtain ⟨o, e⟩ := r.there z
  rw [h] at e
  cases e
theorem RS.noext (r : RS K H0 ext reg en σ H) {i : Nat} {a : Addr} (h : reg i a) : ¬ ext a := fun z => (r.exd a z).nn (r.rg i a h).1
theorem SlotOk.mono {Hs Hs' : Hp} {v : Option V} {rg : AS} (e : Ex Hs Hs') (k : ∀ p o, rg p → H p = some o → isTb o = false → H' p = some o) : ∀ {sv : SV}, SlotOk K Hs H v rg sv → SlotOk K Hs' H' v rg sv
  | .no, _ => trivial
  | .sh d, ⟨x, h1, h2⟩ => ⟨x, h1, h2.mono e.le⟩
  | .ol ds, ⟨p, xs, h1, h2, h3, h4⟩ => ⟨p, xs, h1, h2, k _ _ h2 h3 rfl, h4.mono e.le⟩
  | .od es, ⟨p, xs, h1, h2, h3, h4⟩ => ⟨p, xs, h1, h2, k _ _ h2 h3 rfl, h4.mono e.le⟩
  | .rl ds, ⟨p, xs, h1, h2, h3⟩ => ⟨p, xs, h1, e.sql h2, h3.mono e.le⟩
  | .fz ds, ⟨p, o, xs, h1, h2, h3⟩ => ⟨p, o, xs, h1, e.k _ _ h2 rfl, h3.mono e.le⟩
  | .xr _, h => h
  | .ob _ _ _ _, ⟨p, dx, vs, L, h1, h2, h3, h4, h5, h6⟩ => ⟨p, dx, vs, L, h1, h2, h3, k _ _ h3 h4 rfl, h5, h6.mono e.le k⟩
  | .vw _ _ _, ⟨p, dx, vs, h1, h2, h3, h4⟩ => ⟨p, dx, vs, h1, e.k _ _ h2 rfl, h3, h4.mono e.le⟩
  | .bd _, ⟨p, xs, h1, h2, h3, h4⟩ => ⟨p, xs, h1, h2, k _ _ h2 h3 rfl, h4.mono e.le⟩
  | .bz _, ⟨p, o, xs, h1, h2, h3⟩ => ⟨p, o, xs, h1, e.k _ _ h2 rfl, h3.mono e.le⟩
theorem RS.ex (r : RS K H0 ext reg en σ H) (e : Xt H H') : RS K H0 ext reg en σ H' :=
  ⟨r.le.trans e.toEx, e.t r.tb, r.exd, fun i a h => ⟨(r.rg i a h).1, e.toEx.so (r.rg i a h).2⟩, r.dj, r.ro, r.len, fun i sv h => by
    obtain ⟨v, h1, h2⟩ := r.sl i sv h
    exact ⟨v, h1, h2.mono e.toEx.hid fun p o _ q => e.k p o q⟩⟩
/-- an elder ground -/
theorem RS.ground {H1 : Hp} (r : RS K H1 ext reg en σ H) (e : Ex H0 H1) (x : ∀ a, ext a → So H0 a) : RS K H0 ext reg en σ H :=
  ⟨e.trans r.le, r.tb, x, fun i a h => ⟨e.nn (r.rg i a h).1, (r.rg i a h).2⟩, r.dj, r.ro, r.len, r.sl⟩
/-- the ground of all that no slot owns -/
theorem RS.lift (r : RS K H0 ext reg en σ H) : RS K (hid H fun a => ∃ i, reg i a) ext reg en σ H :=
  ⟨hid_ex, r.tb, fun a h => by
    obtain ⟨o, e, t⟩ := r.le.so (r.exd a h)
    exact ⟨o, by rw [hid_at fun ⟨i, q⟩ => r.noext q h]; exact e, t⟩, fun i a h => ⟨.of (hid_no ⟨i, h⟩), (r.rg i a h).2⟩, r.dj, r.ro, r.len, r.sl⟩
theorem RS.lift_le (r : RS K H0 ext reg en σ H) : Ex H0 (hid H fun a => ∃ i, reg i a) := ⟨fun a o h n => by
  rw [hid_at fun ⟨i, q⟩ => So.nn ⟨o, h, n⟩ (r.rg i a q).1]
  exact r.le.k a o h n⟩
end
end Dn

namespace Dn
open PySem L2
variable [Tabl]

/-- where one stands: the written part, what is wanted of errors, where the errors' classes stand -/
structure Cn where
  K : PySem.W.Frag
  E : XK
  cl : Str → Addr
abbrev Cn.n (C : Cn) : Cn := { C with E := E0 }

/-! ### loose data: what a slot owns may be its root -/
inductive RpL (K : PySem.W.Frag) (Hs H : Hp) : V → PD → Prop
  | s {v : V} {d : PD} : Rp K Hs v d → RpL K Hs H v d
  | l {p : Addr} {xs : List V} {ds : List PD} : H p = some (.lst xs) → RpA K Hs xs ds → RpL K Hs H (.ref p) (.list ds)
  | d {p : Addr} {kvs : List (Key × V)} {es : List (PD × PD)} : H p = some (.dK kvs) → RpK K Hs kvs es → RpL K Hs H (.ref p) (.dict es)
section
variable {K : PySem.W.Frag} {Hs Hs' H H' : Hp} {v : V} {d : PD}
theorem RpL.mono (e : LeR K Hs Hs') (e' : Ex H H') : RpL K Hs H v d → RpL K Hs' H' v d
  | .s h => .s (h.mono e)
  | .l h r => .l (e'.l h) (r.mono e)
  | .d h r => .d (e'.d h) (r.mono e)
theorem RpL.lst0 {ds : List PD} (h : RpL K Hs H v (.list ds)) (e : Ex Hs H) : ∃ p xs, v = .ref p ∧ H p = some (.lst xs) ∧ RpA K Hs xs ds := by
  cases h with
  | s h => cases h with | lst h r => exact ⟨_, _, rfl, e.l h, r⟩
  | l h r => exact ⟨_, _, rfl, h, r⟩
theorem RpL.dct0 {es : List (PD × PD)} (h : RpL K Hs H v (.dict es)) (e : Ex Hs H) : ∃ p kvs, v = .ref p ∧ Rd H p (.dK kvs) ∧ RpK K Hs kvs es := by
  cases h with
  | s h => cases h with | dct h r => exact ⟨_, _, rfl, e.rd h, r⟩
  | d h r => exact ⟨_, _, rfl, .inl h, r⟩
theorem RpL.tup0 {ds : List PD} (h : RpL K Hs H v (.tuple ds)) (e : Ex Hs H) : ∃ p xs, v = .ref p ∧ SqT K H p xs ∧ RpA K Hs xs ds := by
  cases h with
  | s h => cases h with | tup h r => exact ⟨_, _, rfl, e.sqt h, r⟩
theorem RpL.non (h : RpL K Hs H v .none) : v = .non := by cases h with | s h => cases h; rfl
theorem RpL.bl {b : Bool} (h : RpL K Hs H v (.bool b)) : v = .bl b := by cases h with | s h => cases h; rfl
theorem RpL.int {i : Int} (h : RpL K Hs H v (.int i)) : v = .int i := by cases h with | s h => cases h; rfl
theorem RpL.str {x : Str} (h : RpL K Hs H v (.str x)) : v = .str x := by cases h with | s h => cases h; rfl
theorem Rp.bl' {b : Bool} (h : Rp K H v (.bool b)) : v = .bl b := by cases h; rfl
theorem Rp.int' {i : Int} (h : Rp K H v (.int i)) : v = .int i := by cases h; rfl
theorem Rp.str' {x : Str} (h : Rp K H v (.str x)) : v = .str x := by cases h; rfl
/-- loose data as plain data over a heap in which the roots stand -/
theorem RpL.rp (h : RpL K Hs H v d) (e : Ex Hs H) : Rp K H v d := by
  cases h with
  | s h => exact h.mono e.le
  | l h r => exact .lst h (r.mono e.le)
  | d h r => exact .dct (.inl h) (r.mono e.le)
end
theorem hid_less {H : Hp} {Y Z : AS} (i : ∀ a, Y a → Z a) : Ex (hid H Z) (hid H Y) := (Ex.refl H).hidLess i
section
variable {K : PySem.W.Frag} {H : Hp} {Y Z : AS} {v : V}
theorem RpL.lst {ds : List PD} (h : RpL K (hid H Z) (hid H Y) v (.list ds)) (i : ∀ a, Y a → Z a) : ∃ p xs, v = .ref p ∧ H p = some (.lst xs) ∧ RpA K (hid H Z) xs ds :=
  let ⟨p, xs, h1, h2, h3⟩ := h.lst0 (hid_less i); ⟨p, xs, h1, hid_ex.l h2, h3⟩
theorem RpL.dct {es : List (PD × PD)} (h : RpL K (hid H Z) (hid H Y) v (.dict es)) (i : ∀ a, Y a → Z a) : ∃ p kvs, v = .ref p ∧ Rd H p (.dK kvs) ∧ RpK K (hid H Z) kvs es :=
  let ⟨p, xs, h1, h2, h3⟩ := h.dct0 (hid_less i); ⟨p, xs, h1, hid_ex.rd h2, h3⟩
theorem RpL.tup {ds : List PD} (h : RpL K (hid H Z) (hid H Y) v (.tuple ds)) (i : ∀ a, Y a → Z a) : ∃ p xs, v = .ref p ∧ SqT K H p xs ∧ RpA K (hid H Z) xs ds :=
  let ⟨p, xs, h1, h2, h3⟩ := h.tup0 (hid_less i); ⟨p, xs, h1, hid_ex.sqt h2, h3⟩
end
inductive RpLA (K : PySem.W.Frag) (Hs H : Hp) : List V → List PD → Prop
  | nil : RpLA K Hs H [] []
  | cons {v : V} {vs : List V} {d : PD} {ds : List PD} : RpL K Hs H v d → RpLA K Hs H vs ds → RpLA K Hs H (v :: vs) (d :: ds)

/-! ### what is wanted of a result -/
def WrS (C : Cn) (Z : AS) (H : Hp) (Q : VK) : R PD → Prop
  | .ok d => ∀ v H2, Xt H H2 → Rp C.K (hid H2 Z) v d → Q v H2
  | .exc c => ∀ H2, Xt H H2 → C.E (.ref (C.cl c)) none H2
  | .stuck => False
def WrL (C : Cn) (Y Z : AS) (H : Hp) (Q : VK) : R PD → Prop
  | .ok d => ∀ v H2, Xt H H2 → RpL C.K (hid H2 Z) (hid H2 Y) v d → Q v H2
  | .exc c => ∀ H2, Xt H H2 → C.E (.ref (C.cl c)) none H2
  | .stuck => False
def WrT (C : Cn) (H : Hp) (Q : Bool → Hp → Prop) : R Bool → Prop
  | .ok b => ∀ H2, Xt H H2 → Q b H2
  | .exc c => ∀ H2, Xt H H2 → C.E (.ref (C.cl c)) none H2
  | .stuck => False
def WrA (C : Cn) (Z : AS) (H : Hp) (Q : List V → Hp → Prop) : R (List PD) → Prop
  | .ok ds => ∀ vs H2, Xt H H2 → RpA C.K (hid H2 Z) vs ds → Q vs H2
  | .exc c => ∀ H2, Xt H H2 → C.E (.ref (C.cl c)) none H2
  | .stuck => False
def WrB (C : Cn) (Y Z : AS) (H : Hp) (Q : List V → Hp → Prop) : R (List PD) → Prop
  | .ok ds => ∀ vs H2, Xt H H2 → RpLA C.K (hid H2 Z) (hid H2 Y) vs ds → Q vs H2
  | .exc c => ∀ H2, Xt H H2 → C.E (.ref (C.cl c)) none H2
  | .stuck => False
def WrO (C : Cn) (H : Hp) (Q : Option Int → Hp → Prop) : R (Option Int) → Prop
  | .ok o => ∀ H2, Xt H H2 → Q o H2
  | .exc c => ∀ H2, Xt H H2 → C.E (.ref (C.cl c)) none H2
  | .stuck => False

/-- an expression comes to data: safe, loose; a test; arguments: safe, loose -/
def EdS (C : Cn) (te : TE) (f : En → R PD) : Prop := ∀ (H0 : Hp) (ext : AS) (reg : Nat → AS) (en : En) (σ : L2.St) (H : Hp), RS C.K H0 ext reg en σ H → ∀ Q : VK, WrS C (own ext reg) H Q (f en) → te σ H Q
def EdL (C : Cn) (te : TE) (f : En → R PD) : Prop := ∀ (H0 : Hp) (ext : AS) (reg : Nat → AS) (en : En) (σ : L2.St) (H : Hp), RS C.K H0 ext reg en σ H → ∀ Q : VK, WrL C ext (own ext reg) H Q (f en) → te σ H Q
def EdT (C : Cn) (tt : TT) (f : En → R Bool) : Prop := ∀ (H0 : Hp) (ext : AS) (reg : Nat → AS) (en : En) (σ : L2.St) (H : Hp), RS C.K H0 ext reg en σ H → ∀ Q : Bool → Hp → Prop, WrT C H Q (f en) → tt σ H Q
def EdA (C : Cn) (ta : TA) (f : En → R (List PD)) : Prop := ∀ (H0 : Hp) (ext : AS) (reg : Nat → AS) (en : En) (σ : L2.St) (H : Hp), RS C.K H0 ext reg en σ H → ∀ Q : List V → Hp → Prop, WrA C (own ext reg) H Q (f en) → ta σ H Q
def EdB (C : Cn) (ta : TA) (f : En → R (List PD)) : Prop := ∀ (H0 : Hp) (ext : AS) (reg : Nat → AS) (en : En) (σ : L2.St) (H : Hp), RS C.K H0 ext reg en σ H → ∀ Q : List V → Hp → Prop, WrB C ext (own ext reg) H Q (f en) → ta σ H Q
def EdO (C : Cn) (to : TO) (f : En → R (Option Int)) : Prop := ∀ (H0 : Hp) (ext : AS) (reg : Nat → AS) (en : En) (σ : L2.St) (H : Hp), RS C.K H0 ext reg en σ H → ∀ Q : Option Int → Hp → Prop, WrO C H Q (f en) → to σ H Q

section
variable {C : Cn} {ta tb tc te : TE} {fa fb fc : En → R PD} {t u : TT} {ft fu : En → R Bool} {Z : AS} {H H1 : Hp} {Q : VK}
theorem WrS.ex {r : R PD} (w : WrS C Z H Q r) (e : Xt H H1) : WrS C Z H1 Q r := by
  cases r with
  | ok d => exact fun v H2 e2 h => w v H2 (e.trans e2) h
  | exc c => exact fun H2 e2 => w H2 (e.trans e2)
  | stuck => exact w
theorem WrL.ex {Y : AS} {r : R PD} (w : WrL C Y Z H Q r) (e : Xt H H1) : WrL C Y Z H1 Q r := by
  cases r with
  | ok d => exact fun v H2 e2 h => w v H2 (e.trans e2) h
  | exc c => exact fun H2 e2 => w H2 (e.trans e2)
  | stuck => exact w
theorem WrT.ex {Q : Bool → Hp → Prop} {r : R Bool} (w : WrT C H Q r) (e : Xt H H1) : WrT C H1 Q r := by
  cases r with
  | ok d => exact fun H2 e2 => w H2 (e.trans e2)
  | exc c => exact fun H2 e2 => w H2 (e.trans e2)
  | stuck => exact w
theorem WrA.ex {Q : List V → Hp → Prop} {r : R (List PD)} (w : WrA C Z H Q r) (e : Xt H H1) : WrA C Z H1 Q r := by
  cases r with
  | ok d => exact fun v H2 e2 h => w v H2 (e.trans e2) h
  | exc c => exact fun H2 e2 => w H2 (e.trans e2)
  | stuck => exact w
theorem WrB.ex {Y : AS} {Q : List V → Hp → Prop} {r : R (List PD)} (w : WrB C Y Z H Q r) (e : Xt H H1) : WrB C Y Z H1 Q r := by
  cases r with
  | ok d => exact fun v H2 e2 h => w v H2 (e.trans e2) h
  | exc c => exact fun H2 e2 => w H2 (e.trans e2)
  | stuck => exact w
theorem WrO.ex {Q : Option Int → Hp → Prop} {r : R (Option Int)} (w : WrO C H Q r) (e : Xt H H1) : WrO C H1 Q r := by
  cases r with
  | ok d => exact fun H2 e2 => w H2 (e.trans e2)
  | exc c => exact fun H2 e2 => w H2 (e.trans e2)
  | stuck => exact w
theorem EdS.l (h : EdS C te fa) : EdL C te fa := fun H0 ext reg en σ H r Q w => h H0 ext reg en σ H r Q (by
  generalize fa en = x at w ⊢
  cases x with
  | ok d => exact fun v H2 e q => w v H2 e (.s q)
  | exc c => exact w
  | stuck => exact w)
/-- one after another: what comes first is carried on -/
theorem EdL.seq {β : Type} {H0 : Hp} {ext : AS} {reg : Nat → AS} {en : En} {σ : L2.St} (h : EdL C ta fa) (r : RS C.K H0 ext reg en σ H) {W : R β → Prop} {g : PD → R β} {Q : VK} (w : W ((fa en).bind g)) (hx : ∀ c, W (.exc c) → ∀ H2, Xt H H2 → C.E (.ref (C.cl c)) none H2) (hs : ¬ W .stuck)
    (k : ∀ d v H2, Xt H H2 → RS C.K H0 ext reg en σ H2 → RpL C.K (hid H2 (own ext reg)) (hid H2 ext) v d → W (g d) → Q v H2) : ta σ H Q := h H0 ext reg en σ H r Q (by
  generalize fa en = x at w ⊢
  cases x with
  | ok d => exact fun v H2 e q => k d v H2 e (r.ex e) q w
  | exc c => exact hx c w
  | stuck => exact hs w)
theorem EdS.seq {β : Type} {H0 : Hp} {ext : AS} {reg : Nat → AS} {en : En} {σ : L2.St} (h : EdS C ta fa) (r : RS C.K H0 ext reg en σ H) {W : R β → Prop} {g : PD → R β} {Q : VK} (w : W ((fa en).bind g)) (hx : ∀ c, W (.exc c) → ∀ H2, Xt H H2 → C.E (.ref (C.cl c)) none H2) (hs : ¬ W .stuck)
    (k : ∀ d v H2, Xt H H2 → RS C.K H0 ext reg en σ H2 → Rp C.K (hid H2 (own ext reg)) v d → W (g d) → Q v H2) : ta σ H Q := h H0 ext reg en σ H r Q (by
  generalize fa en = x at w ⊢
  cases x with
  | ok d => exact fun v H2 e q => k d v H2 e (r.ex e) q w
  | exc c => exact hx c w
  | stuck => exact hs w)
theorem EdT.seq {β : Type} {H0 : Hp} {ext : AS} {reg : Nat → AS} {en : En} {σ : L2.St} (h : EdT C t ft) (r : RS C.K H0 ext reg en σ H) {W : R β → Prop} {g : Bool → R β} {Q : Bool → Hp → Prop} (w : W ((ft en).bind g)) (hx : ∀ c, W (.exc c) → ∀ H2, Xt H H2 → C.E (.ref (C.cl c)) none H2) (hs : ¬ W .stuck)
    (k : ∀ d H2, Xt H H2 → RS C.K H0 ext reg en σ H2 → W (g d) → Q d H2) : t σ H Q := h H0 ext reg en σ H r Q (by
  generalize ft en = x at w ⊢
  cases x with
  | ok d => exact fun H2 e => k d H2 e (r.ex e) w
  | exc c => exact hx c w
  | stuck => exact hs w)
theorem EdA.seq {β : Type} {H0 : Hp} {ext : AS} {reg : Nat → AS} {en : En} {σ : L2.St} {ta : TA} {fa : En → R (List PD)} (h : EdA C ta fa) (r : RS C.K H0 ext reg en σ H) {W : R β → Prop} {g : List PD → R β} {Q : List V → Hp → Prop} (w : W ((fa en).bind g)) (hx : ∀ c, W (.exc c) → ∀ H2, Xt H H2 → C.E (.ref (C.cl c)) none H2) (hs : ¬ W .stuck)
    (k : ∀ d v H2, Xt H H2 → RS C.K H0 ext reg en σ H2 → RpA C.K (hid H2 (own ext reg)) v d → W (g d) → Q v H2) : ta σ H Q := h H0 ext reg en σ H r Q (by
  generalize fa en = x at w ⊢
  cases x with
  | ok d => exact fun v H2 e q => k d v H2 e (r.ex e) q w
  | exc c => exact hx c w
  | stuck => exact hs w)
theorem EdB.seq {β : Type} {H0 : Hp} {ext : AS} {reg : Nat → AS} {en : En} {σ : L2.St} {ta : TA} {fa : En → R (List PD)} (h : EdB C ta fa) (r : RS C.K H0 ext reg en σ H) {W : R β → Prop} {g : List PD → R β} {Q : List V → Hp → Prop} (w : W ((fa en).bind g)) (hx : ∀ c, W (.exc c) → ∀ H2, Xt H H2 → C.E (.ref (C.cl c)) none H2) (hs : ¬ W .stuck)
    (k : ∀ d v H2, Xt H H2 → RS C.K H0 ext reg en σ H2 → RpLA C.K (hid H2 (own ext reg)) (hid H2 ext) v d → W (g d) → Q v H2) : ta σ H Q := h H0 ext reg en σ H r Q (by
  generalize fa en = x at w ⊢
  cases x with
  | ok d => exact fun v H2 e q => k d v H2 e (r.ex e) q w
  | exc c => exact hx c w
  | stuck => exact hs w)
theorem EdO.seq {β : Type} {H0 : Hp} {ext : AS} {reg : Nat → AS} {en : En} {σ : L2.St} {ta : TO} {fa : En → R (Option Int)} (h : EdO C ta fa) (r : RS C.K H0 ext reg en σ H) {W : R β → Prop} {g : Option Int → R β} {Q : Option Int → Hp → Prop} (w : W ((fa en).bind g)) (hx : ∀ c, W (.exc c) → ∀ H2, Xt H H2 → C.E (.ref (C.cl c)) none H2) (hs : ¬ W .stuck)
    (k : ∀ d H2, Xt H H2 → RS C.K H0 ext reg en σ H2 → W (g d) → Q d H2) : ta σ H Q := h H0 ext reg en σ H r Q (by
  generalize fa en = x at w ⊢
  cases x with
  | ok d => exact fun H2 e => k d H2 e (r.ex e) w
  | exc c => exact hx c w
  | stuck => exact hs w)

/-! ### names, constants -/
def dVar (i : Nat) : En → R PD := fun en => match en[i]? with
  | some (.sh d) => .ok d
  | some (.fz es) => .ok (.dict es)
  | _ => .stuck
def dVarL (i : Nat) : En → R PD := fun en => match en[i]? with
  | some (.sh d) => .ok d
  | some (.ol ds) => .ok (.list ds)
  | some (.od es) => .ok (.dict es)
  | some (.fz es) => .ok (.dict es)
  | _ => .stuck
theorem ed_var (i : Nat) : EdS C (tVar i) (dVar i) := fun H0 ext reg en σ H r Q w => by
  unfold dVar at w
  cases h : en[i]? with
  | none => rw [h] at w; exact w.elim
  | some sv =>
    rw [h] at w
    obtain ⟨v, h1, h2⟩ := r.sl i sv h
    cases sv with
    | sh d =>
      obtain ⟨x, rfl, h3⟩ := h2
      exact ⟨x, h1, w x H (Xt.refl H) h3⟩
    | fz es =>
      obtain ⟨p, o, kvs, rfl, h3, h4⟩ := h2
      exact ⟨_, h1, w _ H (Xt.refl H) (.dct (.inr ⟨o, h3⟩) h4)⟩
    | _ => exact w.elim
theorem el_var (i : Nat) : EdL C (tVar i) (dVarL i) := fun H0 ext reg en σ H r Q w => by
  unfold dVarL at w
  cases h : en[i]? with
  | none => rw [h] at w; exact w.elim
  | some sv =>
    rw [h] at w
    obtain ⟨v, h1, h2⟩ := r.sl i sv h
    cases sv with
    | sh d =>
      obtain ⟨x, rfl, h3⟩ := h2
      exact ⟨x, h1, w x H (Xt.refl H) (.s h3)⟩
    | ol ds =>
      obtain ⟨p, xs, rfl, h0, h3, h4⟩ := h2
      exact ⟨_, h1, w _ H (Xt.refl H) (.l (by rw [hid_at (r.noext h0)]; exact h3) h4)⟩
    | od ds =>
      obtain ⟨p, xs, rfl, h0, h3, h4⟩ := h2
      exact ⟨_, h1, w _ H (Xt.refl H) (.d (by rw [hid_at (r.noext h0)]; exact h3) h4)⟩
    | fz es =>
      obtain ⟨p, o, kvs, rfl, h3, h4⟩ := h2
      exact ⟨_, h1, w _ H (Xt.refl H) (.s (.dct (.inr ⟨o, h3⟩) h4))⟩
    | _ => exact w.elim
def dC (d : PD) : En → R PD := fun _ => .ok d
theorem ed_k {v : V} {d : PD} (h : ∀ H, Rp C.K H v d) : EdS C (tC v) (dC d) := fun H0 ext reg en σ H r Q w => w v H (Xt.refl H) (h _)
theorem ed_int (i : Int) : EdS C (tC (.int i)) (dC (.int i)) := ed_k fun _ => .int i
theorem ed_str (x : Str) : EdS C (tC (.str x)) (dC (.str x)) := ed_k fun _ => .str x
theorem ed_bl (b : Bool) : EdS C (tC (.bl b)) (dC (.bool b)) := ed_k fun _ => .bl b
theorem ed_non : EdS C (tC .non) (dC .none) := ed_k fun _ => .non

/-! ### operators by values -/
/-- r comes to g -/
def Op2 (C : Cn) (r : R2) (g : PD → PD → R PD) : Prop := ∀ (Y Z : AS) (H : Hp) (v w : V) (x y : PD) (Q : VK), (∀ a, Y a → Z a) → (∀ a, Z a → ∃ o, H a = some o) → RpL C.K (hid H Z) (hid H Y) v x → RpL C.K (hid H Z) (hid H Y) w y → WrS C Z H Q (g x y) → r v w H Q
def Op1 (C : Cn) (r : V → Hp → VK → Prop) (g : PD → R PD) : Prop := ∀ (Y Z : AS) (H : Hp) (v : V) (x : PD) (Q : VK), (∀ a, Y a → Z a) → (∀ a, Z a → ∃ o, H a = some o) → RpL C.K (hid H Z) (hid H Y) v x → WrS C Z H Q (g x) → r v H Q
def OpN (C : Cn) (r : List V → Hp → VK → Prop) (g : List PD → R PD) : Prop := ∀ (Y Z : AS) (H : Hp) (vs : List V) (xs : List PD) (Q : VK), (∀ a, Y a → Z a) → (∀ a, Z a → ∃ o, H a = some o) → RpLA C.K (hid H Z) (hid H Y) vs xs → WrS C Z H Q (g xs) → r vs H Q
/-- methods: the object, the arguments -/
def OpM (C : Cn) (r : V → List V → Hp → VK → Prop) (g : PD → List PD → R PD) : Prop := ∀ (Y Z : AS) (H : Hp) (v : V) (x : PD) (vs : List V) (xs : List PD) (Q : VK), (∀ a, Y a → Z a) → (∀ a, Z a → ∃ o, H a = some o) → RpL C.K (hid H Z) (hid H Y) v x → RpLA C.K (hid H Z) (hid H Y) vs xs → WrS C Z H Q (g x xs) → r v vs H Q
def d2 (g : PD → PD → R PD) (fa fb : En → R PD) : En → R PD := fun en => (fa en).bind fun x => (fb en).bind fun y => g x y
def d1 (g : PD → R PD) (fa : En → R PD) : En → R PD := fun en => (fa en).bind g
def dN (g : List PD → R PD) (fa : En → R (List PD)) : En → R PD := fun en => (fa en).bind g
theorem ed_op {r : R2} {g : PD → PD → R PD} (hr : Op2 C r g) (ha : EdL C ta fa) (hb : EdL C tb fb) : EdS C (tOp r ta tb) (d2 g fa fb) := fun H0 ext reg en σ H rs Q w =>
  ha.seq rs (W := WrS C (own ext reg) H Q) w (fun _ q => q) (fun q => q) fun x v H2 e2 r2 h2 w2 =>
    hb.seq r2 (W := WrS C (own ext reg) H2 Q) (w2.ex e2) (fun _ q => q) (fun q => q) fun y u H3 e3 r3 h3 w3 =>
      hr ext (own ext reg) H3 v u x y Q (fun a z => .inl z) (fun a z => r3.there z) (h2.mono e3.toEx.hid.le e3.toEx.hid) h3 (w3.ex e3)
theorem ed_un {r : V → Hp → VK → Prop} {g : PD → R PD} (hr : Op1 C r g) (ha : EdL C ta fa) : EdS C (tUn r ta) (d1 g fa) := fun H0 ext reg en σ H rs Q w =>
  ha.seq rs (W := WrS C (own ext reg) H Q) w (fun _ q => q) (fun q => q) fun x v H2 e2 r2 h2 w2 => hr ext (own ext reg) H2 v x Q (fun a z => .inl z) (fun a z => r2.there z) h2 (w2.ex e2)
theorem ed_cb {r : List V → Hp → VK → Prop} {g : List PD → R PD} {ta : TA} {fa : En → R (List PD)} (hr : OpN C r g) (ha : EdB C ta fa) : EdS C (tCB r ta) (dN g fa) := fun H0 ext reg en σ H rs Q w =>
  ha.seq rs (W := WrS C (own ext reg) H Q) w (fun _ q => q) (fun q => q) fun x v H2 e2 r2 h2 w2 => hr ext (own ext reg) H2 v x Q (fun a z => .inl z) (fun a z => r2.there z) h2 (w2.ex e2)

/-! ### arguments -/
def dNil : En → R (List PD) := fun _ => .ok []
def dCons (fa : En → R PD) (fr : En → R (List PD)) : En → R (List PD) := fun en => (fa en).bind fun x => (fr en).bind fun r => .ok (x :: r)
theorem ea_nil : EdA C tNil dNil := fun H0 ext reg en σ H rs Q w => w [] H (Xt.refl H) .nil
theorem eb_nil : EdB C tNil dNil := fun H0 ext reg en σ H rs Q w => w [] H (Xt.refl H) .nil
theorem RpLA.mono {K : PySem.W.Frag} {Hs Hs' H H' : Hp} (e : LeR K Hs Hs') (e' : Ex H H') : ∀ {vs : List V} {ds : List PD}, RpLA K Hs H vs ds → RpLA K Hs' H' vs ds
  | _, _, .nil => .nil
  | _, _, .cons h r => .cons (h.mono e e') (RpLA.mono e e' r)
theorem ea_cons {tr : TA} {fr : En → R (List PD)} (ha : EdS C ta fa) (hb : EdA C tr fr) : EdA C (tCons ta tr) (dCons fa fr) := fun H0 ext reg en σ H rs Q w =>
  ha.seq rs (W := WrA C (own ext reg) H Q) w (fun _ q => q) (fun q => q) fun x v H2 e2 r2 h2 w2 =>
    hb.seq r2 (W := WrA C (own ext reg) H2 Q) (w2.ex e2) (fun _ q => q) (fun q => q) fun y u H3 e3 r3 h3 w3 =>
      (w3.ex e3) (v :: u) H3 (Xt.refl H3) (.cons (h2.mono e3.toEx.hid.le) h3)
theorem eb_cons {tr : TA} {fr : En → R (List PD)} (ha : EdL C ta fa) (hb : EdB C tr fr) : EdB C (tCons ta tr) (dCons fa fr) := fun H0 ext reg en σ H rs Q w =>
  ha.seq rs (W := WrB C ext (own ext reg) H Q) w (fun _ q => q) (fun q => q) fun x v H2 e2 r2 h2 w2 =>
    hb.seq r2 (W := WrB C ext (own ext reg) H2 Q) (w2.ex e2) (fun _ q => q) (fun q => q) fun y u H3 e3 r3 h3 w3 =>
      (w3.ex e3) (v :: u) H3 (Xt.refl H3) (.cons (h2.mono e3.toEx.hid.le e3.toEx.hid) h3)

/-! ### displays -/
def szN : Nat := 1000000
theorem sz_of {n : Nat} (h : n ≤ szN) : n ≤ sizeLine := Nat.le_trans h (by decide)
theorem sz_lt {n : Nat} (h : n ≤ szN) : n < sizeLine := Nat.lt_of_le_of_lt h (by decide)
theorem hid_new {H : Hp} {Z : AS} {p : Addr} {o : HO} (hz : ∀ a, Z a → ∃ o, H a = some o) (h : H p = none) : hid (upd H p o) Z p = some o := by
  rw [hid_at fun z => by
    obtain ⟨u, e⟩ := hz p z
    rw [h] at e
    cases e]
  exact upd_same
def mkL (ds : List PD) : R PD := if ds.length ≤ szN then .ok (.list ds) else .stuck
def mkT (ds : List PD) : R PD := if ds.length ≤ szN then .ok (.tuple ds) else .stuck
theorem Rp.newL {K : PySem.W.Frag} {Z : AS} {p : Addr} {xs : List V} {ds : List PD} (hz : ∀ a, Z a → ∃ o, H a = some o) (hp : H p = none) (h : RpA K (hid H Z) xs ds) : Rp K (hid (upd H p (.lst xs)) Z) (.ref p) (.list ds) :=
  .lst (hid_new hz hp) (h.mono (Ex.new hp).hid.le)
theorem Rp.newT {K : PySem.W.Frag} {Z : AS} {p : Addr} {xs : List V} {ds : List PD} (hz : ∀ a, Z a → ∃ o, H a = some o) (hp : H p = none) (h : RpA K (hid H Z) xs ds) : Rp K (hid (upd H p (.tup xs)) Z) (.ref p) (.tuple ds) :=
  .tup (.inl (.inl (hid_new hz hp))) (h.mono (Ex.new hp).hid.le)
theorem WrS.newL {xs : List V} {ds : List PD} (w : WrS C Z H Q (mkL ds)) (hz : ∀ a, Z a → ∃ o, H a = some o) (h : RpA C.K (hid H Z) xs ds) : xs.length ≤ sizeLine ∧ ∀ p, H p = none → Q (.ref p) (upd H p (.lst xs)) := by
  unfold mkL at w
  split at w
  · rename_i hl
    refine ⟨sz_of (by rw [h.length]; exact hl), fun p hp => w _ _ (Xt.new hp) (Rp.newL hz hp h)⟩
  · exact w.elim
theorem WrS.newT {xs : List V} {ds : List PD} (w : WrS C Z H Q (mkT ds)) (hz : ∀ a, Z a → ∃ o, H a = some o) (h : RpA C.K (hid H Z) xs ds) : xs.length ≤ sizeLine ∧ ∀ p, H p = none → Q (.ref p) (upd H p (.tup xs)) := by
  unfold mkT at w
  split at w
  · rename_i hl
    refine ⟨sz_of (by rw [h.length]; exact hl), fun p hp => w _ _ (Xt.new hp) (Rp.newT hz hp h)⟩
  · exact w.elim
theorem ed_lst {ta : TA} {fa : En → R (List PD)} (h : EdA C ta fa) : EdS C (tLst ta) (dN mkL fa) := fun H0 ext reg en σ H rs Q w =>
  h.seq rs (W := WrS C (own ext reg) H Q) w (fun _ q => q) (fun q => q) fun x v H2 e2 r2 h2 w2 => (w2.ex e2).newL (fun a z => r2.there z) h2
theorem ed_tup {ta : TA} {fa : En → R (List PD)} (h : EdA C ta fa) : EdS C (tTup ta) (dN mkT fa) := fun H0 ext reg en σ H rs Q w =>
  h.seq rs (W := WrS C (own ext reg) H Q) w (fun _ q => q) (fun q => q) fun x v H2 e2 r2 h2 w2 => (w2.ex e2).newT (fun a z => r2.there z) h2

/-! ### tests -/
def asB : PD → R Bool
  | .bool b => .ok b
  | _ => .stuck
def dTest (fa : En → R PD) : En → R Bool := fun en => (fa en).bind asB
theorem et_test (h : EdL C te fa) : EdT C (tTest te) (dTest fa) := fun H0 ext reg en σ H rs Q w =>
  h.seq rs (W := WrT C H Q) w (fun _ q => q) (fun q => q) fun x v H2 e2 r2 h2 w2 => by
    cases x with
    | bool b => exact ⟨b, h2.bl, w2 H2 e2⟩
    | _ => exact w2.elim
theorem et_B (h : EdL C te fa) : EdT C (tB te) (dTest fa) := et_test h
def dAnd (ft fu : En → R Bool) : En → R Bool := fun en => (ft en).bind fun b => match b with
  | true => fu en
  | false => .ok false
def dOr (ft fu : En → R Bool) : En → R Bool := fun en => (ft en).bind fun b => match b with
  | true => .ok true
  | false => fu en
def dNot (ft : En → R Bool) : En → R Bool := fun en => (ft en).bind fun b => .ok (!b)
theorem et_and (h : EdT C t ft) (h' : EdT C u fu) : EdT C (tAnd t u) (dAnd ft fu) := fun H0 ext reg en σ H rs Q w =>
  h.seq rs (W := WrT C H Q) w (fun _ q => q) (fun q => q) fun b H2 e2 r2 w2 => by
    cases b with
    | true =>
      show u σ H2 Q
      exact h' H0 ext reg en σ H2 r2 Q (WrT.ex w2 e2)
    | false =>
      show Q false H2
      exact w2 H2 e2
theorem et_or (h : EdT C t ft) (h' : EdT C u fu) : EdT C (tOr t u) (dOr ft fu) := fun H0 ext reg en σ H rs Q w =>
  h.seq rs (W := WrT C H Q) w (fun _ q => q) (fun q => q) fun b H2 e2 r2 w2 => by
    cases b with
    | true =>
      show Q true H2
      exact w2 H2 e2
    | false =>
      show u σ H2 Q
      exact h' H0 ext reg en σ H2 r2 Q (WrT.ex w2 e2)
theorem et_not (h : EdT C t ft) : EdT C (tNot t) (dNot ft) := fun H0 ext reg en σ H rs Q w =>
  h.seq rs (W := WrT C H Q) w (fun _ q => q) (fun q => q) fun b H2 e2 r2 w2 => w2 H2 e2
/-- and, or, not as values (truths) -/
def dAndV (fa fb : En → R PD) : En → R PD := fun en => (fa en).bind fun x => match x with
  | .bool true => fb en
  | .bool false => .ok (.bool false)
  | _ => .stuck
def dOrV (fa fb : En → R PD) : En → R PD := fun en => (fa en).bind fun x => match x with
  | .bool true => .ok (.bool true)
  | .bool false => fb en
  | _ => .stuck
def notD : PD → R PD
  | .bool b => .ok (.bool (!b))
  | _ => .stuck
theorem ed_andV (h : EdL C ta fa) (h' : EdS C tb fb) : EdS C (tAndV ta tb) (dAndV fa fb) := fun H0 ext reg en σ H rs Q w =>
  h.seq rs (W := WrS C (own ext reg) H Q) w (fun _ q => q) (fun q => q) fun x v H2 e2 r2 h2 w2 => by
    cases x with
    | bool b =>
      refine ⟨b, h2.bl, ?_⟩
      cases b with
      | true =>
        show tb σ H2 Q
        exact h' H0 ext reg en σ H2 r2 Q (WrS.ex w2 e2)
      | false =>
        show Q (.bl false) H2
        exact w2 _ H2 e2 (.bl false)
    | _ => exact w2.elim
theorem ed_orV (h : EdL C ta fa) (h' : EdS C tb fb) : EdS C (tOrV ta tb) (dOrV fa fb) := fun H0 ext reg en σ H rs Q w =>
  h.seq rs (W := WrS C (own ext reg) H Q) w (fun _ q => q) (fun q => q) fun x v H2 e2 r2 h2 w2 => by
    cases x with
    | bool b =>
      refine ⟨b, h2.bl, ?_⟩
      cases b with
      | true =>
        show Q (.bl true) H2
        exact w2 _ H2 e2 (.bl true)
      | false =>
        show tb σ H2 Q
        exact h' H0 ext reg en σ H2 r2 Q (WrS.ex w2 e2)
    | _ => exact w2.elim
theorem ed_notV (h : EdL C ta fa) : EdS C (tNotV ta) (d1 notD fa) := fun H0 ext reg en σ H rs Q w =>
  h.seq rs (W := WrS C (own ext reg) H Q) w (fun _ q => q) (fun q => q) fun x v H2 e2 r2 h2 w2 => by
    cases x with
    | bool b => exact ⟨b, h2.bl, w2 _ H2 e2 (.bl _)⟩
    | _ => exact w2.elim
def dIf (ft : En → R Bool) (fa fb : En → R PD) : En → R PD := fun en => (ft en).bind fun b => match b with
  | true => fa en
  | false => fb en
theorem ed_if (h : EdT C t ft) (h1 : EdS C ta fa) (h2 : EdS C tb fb) : EdS C (tIf t ta tb) (dIf ft fa fb) := fun H0 ext reg en σ H rs Q w =>
  h.seq rs (W := WrS C (own ext reg) H Q) w (fun _ q => q) (fun q => q) fun b H2 e2 r2 w2 => by
    cases b with
    | true =>
      show ta σ H2 Q
      exact h1 H0 ext reg en σ H2 r2 Q (WrS.ex w2 e2)
    | false =>
      show tb σ H2 Q
      exact h2 H0 ext reg en σ H2 r2 Q (WrS.ex w2 e2)
theorem el_if (h : EdT C t ft) (h1 : EdL C ta fa) (h2 : EdL C tb fb) : EdL C (tIf t ta tb) (dIf ft fa fb) := fun H0 ext reg en σ H rs Q w =>
  h.seq rs (W := WrL C ext (own ext reg) H Q) w (fun _ q => q) (fun q => q) fun b H2 e2 r2 w2 => by
    cases b with
    | true =>
      show ta σ H2 Q
      exact h1 H0 ext reg en σ H2 r2 Q (WrL.ex w2 e2)
    | false =>
      show tb σ H2 Q
      exact h2 H0 ext reg en σ H2 r2 Q (WrL.ex w2 e2)
/-- a < b < c -/
def dChain (g g' : PD → PD → R PD) (fa fb fc : En → R PD) : En → R PD := fun en => (fa en).bind fun x => (fb en).bind fun y => (g x y).bind fun z => match z with
  | .bool true => (fc en).bind fun w => g' y w
  | .bool false => .ok (.bool false)
  | _ => .stuck
theorem ed_chain {r r' : R2} {g g' : PD → PD → R PD} (hr : Op2 C r g) (hr' : Op2 C r' g') (ha : EdL C ta fa) (hb : EdL C tb fb) (hc : EdL C tc fc) : EdS C (tChain r r' ta tb tc) (dChain g g' fa fb fc) := fun H0 ext reg en σ H rs Q w =>
  ha.seq rs (W := WrS C (own ext reg) H Q) w (fun _ q => q) (fun q => q) fun x v H2 e2 r2 h2 w2 =>
    hb.seq r2 (W := WrS C (own ext reg) H2 Q) (WrS.ex w2 e2) (fun _ q => q) (fun q => q) fun y u H3 e3 r3 h3 w3 => by
      refine hr ext (own ext reg) H3 v u x y _ (fun a z => .inl z) (fun a z => r3.there z) (h2.mono e3.toEx.hid.le e3.toEx.hid) h3 ?_
      have w4 := WrS.ex w3 e3
      revert w4
      generalize g x y = z
      intro w4
      cases z with
      | ok z =>
        intro v4 H4 e4 h4
        cases z with
        | bool b =>
          cases h4
          refine ⟨b, rfl, ?_⟩
          cases b with
          | true =>
            exact hc.seq (r3.ex e4) (W := WrS C (own ext reg) H4 Q) (WrS.ex w4 e4) (fun _ q => q) (fun q => q) fun y5 u5 H5 e5 r5 h5 w5 => hr' ext (own ext reg) H5 u u5 y y5 Q (fun a z => .inl z) (fun a z => r5.there z) (h3.mono (e4.trans e5).toEx.hid.le (e4.trans e5).toEx.hid) h5 (WrS.ex w5 e5)
          | false => exact w4 _ H4 e4 (.bl false)
        | _ => exact w4.elim
      | exc c => exact w4
      | stuck => exact w4
end
end Dn

namespace Dn
open PySem L2
variable [Tabl]

section
variable {X : Cx} {f : Value → Value → Sem Value} {r r' : R2}
def rOr (r r' : R2) : R2 := fun x y H Q => r x y H Q ∨ r' x y H Q
theorem opOr (h : OpR X f r) (h' : OpR X f r') : OpR X f (rOr r r') := fun pins s σ H x y v u Q I rx ry q => by
  rcases q with q | q
  · exact h pins s σ H x y v u Q I rx ry q
  · exact h' pins s σ H x y v u Q I rx ry q
def cOr (r r' : List V → Hp → VK → Prop) : List V → Hp → VK → Prop := fun xs H Q => r xs H Q ∨ r' xs H Q
theorem callOr {g : Value} {r r' : List V → Hp → VK → Prop} (h : CallR X g r) (h' : CallR X g r') : CallR X g (cOr r r') := fun pins s σ H xs us Q I rx q => by
  rcases q with q | q
  · exact h pins s σ H xs us Q I rx q
  · exact h' pins s σ H xs us Q I rx q
end

/-! ### arithmetic -/
def addD : PD → PD → R PD
  | .int i, .int j => .ok (.int (i + j))
  | .str a, .str b => if a.length + b.length ≤ szN then .ok (.str (a ++ b)) else .stuck
  | .list a, .list b => if a.length + b.length ≤ szN then .ok (.list (a ++ b)) else .stuck
  | _, _ => .stuck
def rAddStr : R2 := fun x y H Q => ∃ i j, x = .str i ∧ y = .str j ∧ i.length + j.length ≤ sizeLine ∧ Q (.str (i ++ j)) H
def rAddD : R2 := rOr (rI0 fun i j => .int (i + j)) (rOr rAddStr rCat)
theorem op_addD {X : Cx} : OpR X (binaryOp .Add) rAddD := opOr op_add (opOr op_add_str op_cat)
section
variable {C : Cn}
theorem o_add : Op2 C rAddD addD := fun Y Z H v w x y Q hyz hz hx hy q => by
  cases x with
  | int i =>
    cases y with
    | int j => exact .inl ⟨i, j, hx.int, hy.int, q _ H (Xt.refl H) (.int _)⟩
    | _ => exact q.elim
  | str a =>
    cases y with
    | str b =>
      unfold addD at q
      dsimp only at q
      split at q
      · rename_i hl
        exact .inr (.inl ⟨a, b, hx.str, hy.str, sz_of hl, q _ H (Xt.refl H) (.str _)⟩)
      · exact q.elim
    | _ => exact q.elim
  | list a =>
    cases y with
    | list b =>
      unfold addD at q
      dsimp only at q
      split at q
      · rename_i hl
        obtain ⟨p, xs, rfl, h1, r1⟩ := hx.lst hyz
        obtain ⟨p', ys, rfl, h2, r2⟩ := hy.lst hyz
        exact .inr (.inr ⟨p, p', xs, ys, rfl, rfl, h1, h2, sz_of (by rw [r1.length, r2.length]; exact hl), fun n hn => q _ _ (Xt.new hn) (Rp.newL hz hn (r1.app r2))⟩)
      · exact q.elim
    | _ => exact q.elim
  | _ => exact q.elim
/-- two ints -/
def i2 (C' : Int → Int → Bool) (g : Int → Int → PD) : PD → PD → R PD
  | .int i, .int j => if C' i j = true then .ok (g i j) else .stuck
  | _, _ => .stuck
def i20 (g : Int → Int → PD) : PD → PD → R PD
  | .int i, .int j => .ok (g i j)
  | _, _ => .stuck
theorem o_i20 {gv : Int → Int → V} {g : Int → Int → PD} (h : ∀ i j H, Rp C.K H (gv i j) (g i j)) : Op2 C (rI0 gv) (i20 g) := fun Y Z H v w x y Q hyz hz hx hy q => by
  cases x with
  | int i =>
    cases y with
    | int j => exact ⟨i, j, hx.int, hy.int, q _ H (Xt.refl H) (h i j _)⟩
    | _ => exact q.elim
  | _ => exact q.elim
theorem o_i2 {C' : Int → Int → Prop} {c : Int → Int → Bool} {gv : Int → Int → V} {g : Int → Int → PD} (hc : ∀ i j, c i j = true → C' i j) (h : ∀ i j H, Rp C.K H (gv i j) (g i j)) : Op2 C (rI C' gv) (i2 c g) := fun Y Z H v w x y Q hyz hz hx hy q => by
  cases x with
  | int i =>
    cases y with
    | int j =>
      unfold i2 at q
      dsimp only at q
      split at q
      · rename_i hl
        exact ⟨i, j, hx.int, hy.int, hc i j hl, q _ H (Xt.refl H) (h i j _)⟩
      · exact q.elim
    | _ => exact q.elim
  | _ => exact q.elim
abbrev subD : PD → PD → R PD := i20 fun i j => .int (i - j)
theorem o_sub : Op2 C (rI0 fun i j => .int (i - j)) subD := o_i20 fun _ _ _ => .int _
abbrev ltD : PD → PD → R PD := i20 fun i j => .bool (decide (i < j))
abbrev leD : PD → PD → R PD := i20 fun i j => .bool (decide (i ≤ j))
abbrev gtD : PD → PD → R PD := i20 fun i j => .bool (decide (j < i))
abbrev geD : PD → PD → R PD := i20 fun i j => .bool (decide (j ≤ i))
theorem o_lt : Op2 C (rI0 fun i j => .bl (decide (i < j))) ltD := o_i20 fun _ _ _ => .bl _
theorem o_le : Op2 C (rI0 fun i j => .bl (decide (i ≤ j))) leD := o_i20 fun _ _ _ => .bl _
theorem o_gt : Op2 C (rI0 fun i j => .bl (decide (j < i))) gtD := o_i20 fun _ _ _ => .bl _
theorem o_ge : Op2 C (rI0 fun i j => .bl (decide (j ≤ i))) geD := o_i20 fun _ _ _ => .bl _
abbrev modD : PD → PD → R PD := i2 (fun _ j => decide (0 < j)) fun i j => .int (i % j)
theorem o_mod : Op2 C (rI (fun _ j => 0 < j) fun i j => .int (i % j)) modD := o_i2 (fun _ _ h => of_decide_eq_true h) fun _ _ _ => .int _
abbrev fdivD : PD → PD → R PD := i2 (fun _ j => decide (0 < j ∧ j.natAbs.log2 < 9000)) fun i j => .int (i / j)
theorem o_fdiv : Op2 C (rI CDivW fun i j => .int (i / j)) fdivD := o_i2 (fun i j h => show CDivW i j from of_decide_eq_true (p := (0 < j ∧ j.natAbs.log2 < 9000)) h) fun _ _ _ => .int _
abbrev powD : PD → PD → R PD := i2 (fun i j => decide (0 ≤ j ∧ j ≤ 1000000 ∧ i.natAbs < 2 ^ 64)) fun i j => .int (i ^ j.toNat)
theorem o_pow : Op2 C (rI CPow fun i j => .int (i ^ j.toNat)) powD := o_i2 (fun i j h => show CPow i j from of_decide_eq_true (p := (0 ≤ j ∧ j ≤ 1000000 ∧ i.natAbs < 2 ^ 64)) h) fun _ _ _ => .int _
/-- * : ints (one below 2^64, or both below 2^4000), a list times an int -/
def mulC (i j : Int) : Bool := decide ((-(2 ^ 64) < i ∧ i < 2 ^ 64) ∨ (-(2 ^ 64) < j ∧ j < 2 ^ 64)) || decide (i.natAbs.log2 + j.natAbs.log2 < 1000000)
def mulD : PD → PD → R PD
  | .int i, .int j => if mulC i j = true then .ok (.int (i * j)) else .stuck
  | .list xs, .int k => if -(2 ^ 63) ≤ k ∧ k < 2 ^ 63 ∧ xs.length * k.toNat ≤ szN then .ok (.list (List.replicate k.toNat xs).flatten) else .stuck
  | _, _ => .stuck
def rMulD : R2 := rOr (rI CMul fun i j => .int (i * j)) (rOr (rI CMulW fun i j => .int (i * j)) rRep)
theorem op_mulD {X : Cx} : OpR X (binaryOp .Mult) rMulD := opOr op_mul (opOr op_mulW op_rep)
theorem o_mul : Op2 C rMulD mulD := fun Y Z H v w x y Q hyz hz hx hy q => by
  cases x with
  | int i =>
    cases y with
    | int j =>
      unfold mulD at q
      dsimp only at q
      split at q
      · rename_i hl
        have hl' : decide ((-(2 ^ 64) < i ∧ i < 2 ^ 64) ∨ (-(2 ^ 64) < j ∧ j < 2 ^ 64)) = true ∨ decide (i.natAbs.log2 + j.natAbs.log2 < 1000000) = true := Bool.or_eq_true_iff.mp hl
        rcases hl' with h | h
        · exact .inl ⟨i, j, hx.int, hy.int, show CMul i j from of_decide_eq_true (p := ((-(2 ^ 64) < i ∧ i < 2 ^ 64) ∨ (-(2 ^ 64) < j ∧ j < 2 ^ 64))) h, q _ H (Xt.refl H) (.int _)⟩
        · exact .inr (.inl ⟨i, j, hx.int, hy.int, show CMulW i j from of_decide_eq_true (p := (i.natAbs.log2 + j.natAbs.log2 < 1000000)) h, q _ H (Xt.refl H) (.int _)⟩)
      · exact q.elim
    | _ => exact q.elim
  | list a =>
    cases y with
    | int k =>
      unfold mulD at q
      dsimp only at q
      split at q
      · rename_i hl
        obtain ⟨p, xs, rfl, h1, r1⟩ := hx.lst hyz
        exact .inr (.inr ⟨p, k, xs, rfl, hy.int, h1, hl.1, hl.2.1, sz_of (by rw [r1.length]; exact hl.2.2), fun n hn => q _ _ (Xt.new hn) (Rp.newL hz hn (r1.rep _))⟩)
      · exact q.elim
    | _ => exact q.elim
  | _ => exact q.elim
def negD : PD → R PD
  | .int i => .ok (.int (-i))
  | _ => .stuck
theorem o_neg : Op1 C (rU fun i => .int (-i)) negD := fun Y Z H v x Q hyz hz hx q => by
  cases x with
  | int i => exact ⟨i, hx.int, q _ H (Xt.refl H) (.int _)⟩
  | _ => exact q.elim

/-! ### == -/
def sc2 : PD → PD → Option Bool
  | .str a, .str b => some (decide (a = b))
  | .int a, .int b => some (decide (a = b))
  | .bool a, .bool b => some (decide (a = b))
  | .none, .none => some true
  | .none, .str _ => some false
  | .str _, .none => some false
  | _, _ => none
def eqD (x y : PD) : R PD := match sc2 x y with
  | some b => .ok (.bool b)
  | none => if (SeqAt.shaped x && SeqAt.shaped y) = true then .ok (.bool (PyData.eqv x y)) else .stuck
def neD (x y : PD) : R PD := match sc2 x y with
  | some b => .ok (.bool (!b))
  | none => if (SeqAt.shaped x && SeqAt.shaped y) = true then .ok (.bool (!PyData.eqv x y)) else .stuck
def rEqA (K : PySem.W.Frag) : R2 := rOr rEq (rEqD K)
def rNeA (K : PySem.W.Frag) : R2 := rOr rNe (rNeD K)
theorem op_eqA {X : Cx} (hu : X.A.units + 64 < cLine) : OpR X (compareOp .Eq) (rEqA X.K) := opOr op_eq (op_eqD hu)
theorem op_neA {X : Cx} (hu : X.A.units + 64 < cLine) : OpR X (compareOp .NotEq) (rNeA X.K) := opOr op_ne (op_neD hu)
mutual
theorem Rp.dp {K : PySem.W.Frag} {H : Hp} : ∀ {d : PD} {v : V}, Rp K H v d → PyData.canLay0 d = true → Dp K H v d
  | _, _, .non, _ => .non
  | _, _, .bl b, _ => .bl b
  | _, _, .int b, _ => .int b
  | _, _, .str b, _ => .str b
  | _, _, .lst h r, c => .lst (.inl (.inl h)) (RpA.dp r (by simpa [PyData.canLay0] using c))
  | _, _, .tup h r, c => .tup h (RpA.dp r (by simpa [PyData.canLay0] using c))
  | _, _, .dct _ _, c => by simp [PyData.canLay0] at c
theorem RpA.dp {K : PySem.W.Frag} {H : Hp} : ∀ {d : List PD} {v : List V}, RpA K H v d → PyData.canLayAll0 d = true → DpAll K H v d
  | _, _, .nil, _ => .nil
  | _, _, .cons h r, c => by
    simp only [PyData.canLayAll0, Bool.and_eq_true] at c
    exact .cons (Rp.dp h c.1) (RpA.dp r c.2)
end
theorem sc2_scal {K : PySem.W.Frag} {Hs H : Hp} {v w : V} {x y : PD} {b : Bool} (e : sc2 x y = some b) (hx : RpL K Hs H v x) (hy : RpL K Hs H w y) : scal v w = true ∧ decide (v = w) = b := by
  unfold sc2 at e
  split at e
  · rw [hx.str, hy.str, ← Option.some.inj e]
    exact ⟨rfl, by simp⟩
  · rw [hx.int, hy.int, ← Option.some.inj e]
    exact ⟨rfl, by simp⟩
  · rw [hx.bl, hy.bl, ← Option.some.inj e]
    exact ⟨rfl, by simp⟩
  · rw [hx.non, hy.non, ← Option.some.inj e]
    exact ⟨rfl, by simp⟩
  · rw [hx.non, hy.str, ← Option.some.inj e]
    exact ⟨rfl, by simp⟩
  · rw [hx.str, hy.non, ← Option.some.inj e]
    exact ⟨rfl, by simp⟩
  · cases e
theorem o_eq : Op2 C (rEqA C.K) eqD := fun Y Z H v w x y Q hyz hz hx hy q => by
  unfold eqD at q
  cases e : sc2 x y with
  | some b =>
    rw [e] at q
    obtain ⟨h1, h2⟩ := sc2_scal e hx hy
    exact .inl ⟨h1, by rw [h2]; exact q _ H (Xt.refl H) (.bl _)⟩
  | none =>
    rw [e] at q
    dsimp only at q
    split at q
    · rename_i hl
      obtain ⟨s1, s2⟩ := Bool.and_eq_true_iff.mp hl
      exact .inr ⟨x, y, ((hx.rp (hid_less hyz)).mono hid_ex.le).dp (SeqAt.canLay_of_shaped s1), ((hy.rp (hid_less hyz)).mono hid_ex.le).dp (SeqAt.canLay_of_shaped s2), s1, s2, q _ H (Xt.refl H) (.bl _)⟩
    · exact q.elim
theorem o_ne : Op2 C (rNeA C.K) neD := fun Y Z H v w x y Q hyz hz hx hy q => by
  unfold neD at q
  cases e : sc2 x y with
  | some b =>
    rw [e] at q
    obtain ⟨h1, h2⟩ := sc2_scal e hx hy
    exact .inl ⟨h1, by rw [h2]; exact q _ H (Xt.refl H) (.bl _)⟩
  | none =>
    rw [e] at q
    dsimp only at q
    split at q
    · rename_i hl
      obtain ⟨s1, s2⟩ := Bool.and_eq_true_iff.mp hl
      exact .inr ⟨x, y, ((hx.rp (hid_less hyz)).mono hid_ex.le).dp (SeqAt.canLay_of_shaped s1), ((hy.rp (hid_less hyz)).mono hid_ex.le).dp (SeqAt.canLay_of_shaped s2), s1, s2, q _ H (Xt.refl H) (.bl _)⟩
    · exact q.elim

/-! ### items, slices -/
def eqK : PD → Key → Bool
  | .int i, .inl j => decide (i = j)
  | .str x, .inr y => decide (x = y)
  | _, _ => false
def kOf : PD → Option Key
  | .int i => some (.inl i)
  | .str x => some (.inr x)
  | _ => none
/-- what the pairs hold at the key -/
def lookD (es : List (PD × PD)) (k : Key) : Option PD := (es.find? fun e => eqK e.1 k).map (·.2)
theorem eqK_kD (k j : Key) : eqK (kD k) j = decide (k = j) := by
  cases k <;> cases j <;> simp [eqK, kD]
theorem RpL.key {K : PySem.W.Frag} {Hs H : Hp} {v : V} {x : PD} {k : Key} (h : RpL K Hs H v x) (e : kOf x = some k) : v = kV k := by
  cases x with
  | int i => cases e; exact h.int
  | str z => cases e; exact h.str
  | _ => cases e
theorem RpK.look {K : PySem.W.Frag} {H : Hp} (k : Key) : ∀ {kvs : List (Key × V)} {es : List (PD × PD)}, RpK K H kvs es → (∀ d, lookD es k = some d → ∃ v, valV kvs k = some v ∧ Rp K H v d) ∧ (lookD es k = none → valV kvs k = none)
  | _, _, .nil => ⟨fun d h => (nomatch h), fun _ => rfl⟩
  | _, _, .cons (k := j) (v := v) (vs := vs) (d := d) (ds := ds) h r => by
    obtain ⟨h1, h2⟩ := RpK.look k r
    by_cases e : j = k
    · have a : valV ((j, v) :: vs) k = some v := valV_pos (p := (j, v)) e
      have b : lookD ((kD j, d) :: ds) k = some d := by
        unfold lookD
        rw [List.find?_cons, eqK_kD, decide_eq_true e]
        rfl
      rw [a, b]
      exact ⟨fun d' q => by cases q; exact ⟨v, rfl, h⟩, fun q => by cases q⟩
    · have a : valV ((j, v) :: vs) k = valV vs k := valV_neg (p := (j, v)) e
      have b : lookD ((kD j, d) :: ds) k = lookD ds k := by
        unfold lookD
        rw [List.find?_cons, eqK_kD, decide_eq_false e]
      rw [a, b]
      exact ⟨h1, h2⟩
def rDG : R2 := fun x y H Q => ∃ a v, x = .ref a ∧ DGet H a y (some v) ∧ Q v H
theorem ix_dict {X : Cx} (hu : X.A.units + 64 < cLine) : IxR X rDG := by
  intro value slice pins s σ H x y v u Q I rx ry h hs
  obtain ⟨a, v0, rfl, g, q⟩ := h
  obtain rfl : v = Value.ref a := rx
  exact PyProof.Rows.tail_any (dict_typeIs I g) PySem.F.slot_dict_getitem.lookup (d_getItem (by omega) I g ry fun w' s3 I3 rw' => ⟨v0, H, I3, rw', q⟩) hs
def rIxA (K : PySem.W.Frag) : R2 := rOr (rIx K) rDG
theorem ixOr {X : Cx} {r r' : R2} (h : IxR X r) (h' : IxR X r') : IxR X (rOr r r') := by
  intro value slice pins s σ H x y v u Q I rx ry q hs
  rcases q with q | q
  · exact h value slice pins s σ H x y v u Q I rx ry q hs
  · exact h' value slice pins s σ H x y v u Q I rx ry q hs
theorem ix_A {X : Cx} (hu : X.A.units + 64 < cLine) : IxR X (rIxA X.K) := ixOr ix_seq (ix_dict hu)
def ixD : PD → PD → R PD
  | .list xs, .int i => match atI xs i with
    | some d => .ok d
    | none => .stuck
  | .tuple xs, .int i => match atI xs i with
    | some d => .ok d
    | none => .stuck
  | .str z, .int i => match atI z.cps.toList i with
    | some c => if z.length ≤ szN then .ok (.str ⟨#[c]⟩) else .stuck
    | none => .stuck
  | .dict es, k => match kOf k with
    | some k => match lookD es k with
      | some d => .ok d
      | none => .stuck
    | none => .stuck
  | _, _ => .stuck
theorem RpA.atI {K : PySem.W.Frag} {H : Hp} {xs : List V} {ds : List PD} {i : Int} {d : PD} (h : RpA K H xs ds) (e : L2.atI ds i = some d) : ∃ v, L2.atI xs i = some v ∧ Rp K H v d := by
  unfold L2.atI at e ⊢
  rw [h.length]
  cases q : ixN ds.length i with
  | none => rw [q] at e; cases e
  | some j =>
    rw [q] at e
    exact h.get e
theorem o_ix : Op2 C (rIxA C.K) ixD := fun Y Z H v w x y Q hyz hz hx hy q => by
  unfold ixD at q
  split at q
  · rename_i xs i
    split at q
    · rename_i d e
      obtain ⟨p, vs, rfl, h1, r1⟩ := hx.lst hyz
      obtain ⟨u, e2, hu⟩ := r1.atI e
      exact .inl (.inl ⟨p, vs, i, u, rfl, hy.int, SqL.of h1, e2, q _ H (Xt.refl H) hu⟩)
    · exact q.elim
  · rename_i xs i
    split at q
    · rename_i d e
      obtain ⟨p, vs, rfl, h1, r1⟩ := hx.tup hyz
      obtain ⟨u, e2, hu⟩ := r1.atI e
      exact .inl (.inr (.inl ⟨p, vs, i, u, rfl, hy.int, h1, e2, q _ H (Xt.refl H) hu⟩))
    · exact q.elim
  · rename_i z i
    split at q
    · rename_i c e
      split at q
      · rename_i hl
        exact .inl (.inr (.inr ⟨z, i, c, hx.str, hy.int, sz_of hl, e, q _ H (Xt.refl H) (.str _)⟩))
      · exact q.elim
    · exact q.elim
  · rename_i es k
    split at q
    · rename_i k0 ek
      split at q
      · rename_i d ed
        obtain ⟨p, kvs, rfl, h1, r1⟩ := hx.dct hyz
        obtain ⟨v0, ev, rv⟩ := (r1.look k0).1 d ed
        exact .inr ⟨p, v0, rfl, .inl ⟨kvs, k0, h1, hy.key ek, ev.symm⟩, q _ H (Xt.refl H) rv⟩
      · exact q.elim
    · exact q.elim
  · exact q.elim
def cutD (xs : List PD) (lo hi : Option Int) : List PD := (xs.drop (HT.sIx xs.length 0 lo)).take (HT.sIx xs.length xs.length hi - HT.sIx xs.length 0 lo)
theorem RpA.cut {K : PySem.W.Frag} {H : Hp} {xs : List V} {ds : List PD} (h : RpA K H xs ds) (lo hi : Option Int) : RpA K H (cutV xs lo hi) (cutD ds lo hi) := by
  unfold cutV cutD
  rw [h.length]
  exact (h.drop _).take _
def slD : PD → Option Int → Option Int → R PD
  | .list xs, lo, hi => .ok (.list (cutD xs lo hi))
  | .str z, lo, hi => if z.length ≤ szN then .ok (.str (cutS z lo hi)) else .stuck
  | _, _, _ => .stuck
def dOno : En → R (Option Int) := fun _ => .ok none
def dOso (fa : En → R PD) : En → R (Option Int) := fun en => (fa en).bind fun x => match x with
  | .int i => .ok (some i)
  | _ => .stuck
theorem eo_none : EdO C tNoPart dOno := fun H0 ext reg en σ H rs Q w => w H (Xt.refl H)
theorem eo_some {ta : TE} {fa : En → R PD} (h : EdL C ta fa) : EdO C (tPart ta) (dOso fa) := fun H0 ext reg en σ H rs Q w =>
  h.seq rs (W := WrO C H Q) w (fun _ q => q) (fun q => q) fun x v H2 e2 r2 h2 w2 => by
    cases x with
    | int i => exact ⟨i, h2.int, w2 H2 e2⟩
    | _ => exact w2.elim
end
end Dn

namespace Dn
open PySem L2
variable [Tabl]

section
variable {K : PySem.W.Frag} {Hs H : Hp} {vs : List V} {x y : PD}
theorem RpLA.zero (h : RpLA K Hs H vs []) : vs = [] := by cases h; rfl
theorem RpLA.one (h : RpLA K Hs H vs [x]) : ∃ v, vs = [v] ∧ RpL K Hs H v x := by
  cases h with
  | cons a r => cases r; exact ⟨_, rfl, a⟩
theorem RpLA.two (h : RpLA K Hs H vs [x, y]) : ∃ v w, vs = [v, w] ∧ RpL K Hs H v x ∧ RpL K Hs H w y := by
  cases h with
  | cons a r =>
    cases r with
    | cons b r => cases r; exact ⟨_, _, rfl, a, b⟩
end

section
variable {C : Cn} {ta tb te : TE} {fa fb : En → R PD}
/-! ### slices -/
def dSl (fa : En → R PD) (fl fh : En → R (Option Int)) : En → R PD := fun en => (fa en).bind fun x => (fl en).bind fun l => (fh en).bind fun u => slD x l u
def rSlD (K : PySem.W.Frag) : V → Option Int → Option Int → Hp → VK → Prop := fun x lo hi H Q => rSlL K x lo hi H Q ∨ rSlS x lo hi H Q
theorem sl_D {X : Cx} : SlR X (rSlD X.K) := sl_list.or sl_str
theorem ed_sl {tl th : TO} {fl fh : En → R (Option Int)} (h : EdL C ta fa) (hl : EdO C tl fl) (hh : EdO C th fh) : EdS C (tSl (rSlD C.K) ta tl th) (dSl fa fl fh) := fun H0 ext reg en σ H rs Q w =>
  h.seq rs (W := WrS C (own ext reg) H Q) w (fun _ q => q) (fun q => q) fun x v H2 e2 r2 h2 w2 =>
    hl.seq r2 (W := WrS C (own ext reg) H2 Q) (WrS.ex w2 e2) (fun _ q => q) (fun q => q) fun l H3 e3 r3 w3 =>
      hh.seq r3 (W := WrS C (own ext reg) H3 Q) (WrS.ex w3 e3) (fun _ q => q) (fun q => q) fun u H4 e4 r4 w4 => by
        have w5 := WrS.ex w4 e4
        have h5 := h2.mono (e3.trans e4).toEx.hid.le (e3.trans e4).toEx.hid
        clear w4 w3 w2 w h2
        unfold slD at w5
        split at w5
        · obtain ⟨p, xs, rfl, hp, hr⟩ := h5.lst fun a z => .inl z
          exact .inl ⟨p, xs, rfl, SqL.of hp, fun q hq => w5 _ _ (Xt.new hq) (Rp.newL (fun a z => r4.there z) hq (hr.cut l u))⟩
        · split at w5
          · rename_i hl
            exact .inr ⟨_, h5.str, sz_of hl, w5 _ H4 (Xt.refl H4) (.str _)⟩
          · exact w5.elim
        · exact w5.elim

/-! ### built-ins -/
def lenD : List PD → R PD
  | [.list ds] => .ok (.int ds.length)
  | [.tuple ds] => .ok (.int ds.length)
  | [.str z] => if z.length ≤ szN then .ok (.int z.length) else .stuck
  | _ => .stuck
def rLenA (K : PySem.W.Frag) : List V → Hp → VK → Prop := fun xs H Q => ∃ x n, xs = [x] ∧ LenV K x H n ∧ Q (.int n) H
theorem n_len : OpN C (rLenA C.K) lenD := fun Y Z H vs xs Q hyz hz hx q => by
  unfold lenD at q
  split at q
  · obtain ⟨v, rfl, h⟩ := hx.one
    obtain ⟨p, ys, rfl, hp, hr⟩ := h.lst hyz
    exact ⟨.ref p, _, rfl, .inl ⟨ys, SqL.of hp, rfl⟩, by rw [hr.length]; exact q _ H (Xt.refl H) (.int _)⟩
  · obtain ⟨v, rfl, h⟩ := hx.one
    obtain ⟨p, ys, rfl, hp, hr⟩ := h.tup hyz
    exact ⟨.ref p, _, rfl, .inr ⟨ys, hp, rfl⟩, by rw [hr.length]; exact q _ H (Xt.refl H) (.int _)⟩
  · split at q
    · rename_i z hl
      obtain ⟨v, rfl, h⟩ := hx.one
      obtain rfl := h.str
      exact ⟨.str z, _, rfl, ⟨sz_of hl, rfl⟩, q _ H (Xt.refl H) (.int _)⟩
    · exact q.elim
  · exact q.elim
def absD : List PD → R PD
  | [.int i] => .ok (.int (if i < 0 then -i else i))
  | _ => .stuck
def rAbs : List V → Hp → VK → Prop := fun xs H Q => ∃ i, xs = [.int i] ∧ Q (.int (if i < 0 then -i else i)) H
theorem n_abs : OpN C rAbs absD := fun Y Z H vs xs Q hyz hz hx q => by
  unfold absD at q
  split at q
  · obtain ⟨v, rfl, h⟩ := hx.one
    obtain rfl := h.int
    exact ⟨_, rfl, q _ H (Xt.refl H) (.int _)⟩
  · exact q.elim
def intD : List PD → R PD
  | [.int i] => .ok (.int i)
  | [.bool b] => .ok (.int (if b then 1 else 0))
  | _ => .stuck
def rInt1 : List V → Hp → VK → Prop := fun xs H Q => (∃ i, xs = [.int i] ∧ Q (.int i) H) ∨ ∃ k, xs = [.bl k] ∧ Q (.int (if k then 1 else 0)) H
theorem n_int : OpN C rInt1 intD := fun Y Z H vs xs Q hyz hz hx q => by
  unfold intD at q
  split at q
  · obtain ⟨v, rfl, h⟩ := hx.one
    obtain rfl := h.int
    exact .inl ⟨_, rfl, q _ H (Xt.refl H) (.int _)⟩
  · obtain ⟨v, rfl, h⟩ := hx.one
    obtain rfl := h.bl
    exact .inr ⟨_, rfl, q _ H (Xt.refl H) (.int _)⟩
  · exact q.elim
def asInts : List PD → Option (List Int)
  | [] => some []
  | .int i :: r => (asInts r).map (i :: ·)
  | _ :: _ => none
def asBools : List PD → Option (List Bool)
  | [] => some []
  | .bool i :: r => (asBools r).map (i :: ·)
  | _ :: _ => none
def asStrs : List PD → Option (List Str)
  | [] => some []
  | .str i :: r => (asStrs r).map (i :: ·)
  | _ :: _ => none
theorem asInts_map (ns : List Int) : asInts (ns.map .int) = some ns := by
  induction ns with
  | nil => rfl
  | cons a r ih => show (asInts (r.map .int)).map _ = _; rw [ih]; rfl
theorem asBools_map (ns : List Bool) : asBools (ns.map .bool) = some ns := by
  induction ns with
  | nil => rfl
  | cons a r ih => show (asBools (r.map .bool)).map _ = _; rw [ih]; rfl
theorem asStrs_map (ns : List Str) : asStrs (ns.map .str) = some ns := by
  induction ns with
  | nil => rfl
  | cons a r ih => show (asStrs (r.map .str)).map _ = _; rw [ih]; rfl
theorem RpA.asInts {K : PySem.W.Frag} {H : Hp} : ∀ {vs : List V} {ds : List PD} {ns : List Int}, RpA K H vs ds → Dn.asInts ds = some ns → vs = ns.map V.int
  | _, _, ns, .nil, e => by cases e; rfl
  | _, _, ns, .cons (d := d) (ds := ds) h r, e => by
    cases d with
    | int i =>
      unfold Dn.asInts at e
      cases q : Dn.asInts ds with
      | none => rw [q] at e; cases e
      | some l =>
        rw [q] at e
        cases e
        rw [h.int', RpA.asInts r q]
        rfl
    | _ => cases e
theorem RpA.asBools {K : PySem.W.Frag} {H : Hp} : ∀ {vs : List V} {ds : List PD} {ns : List Bool}, RpA K H vs ds → Dn.asBools ds = some ns → vs = ns.map V.bl
  | _, _, ns, .nil, e => by cases e; rfl
  | _, _, ns, .cons (d := d) (ds := ds) h r, e => by
    cases d with
    | bool i =>
      unfold Dn.asBools at e
      cases q : Dn.asBools ds with
      | none => rw [q] at e; cases e
      | some l =>
        rw [q] at e
        cases e
        rw [h.bl', RpA.asBools r q]
        rfl
    | _ => cases e
theorem RpA.asStrs {K : PySem.W.Frag} {H : Hp} : ∀ {vs : List V} {ds : List PD} {ns : List Str}, RpA K H vs ds → Dn.asStrs ds = some ns → vs = ns.map V.str
  | _, _, ns, .nil, e => by cases e; rfl
  | _, _, ns, .cons (d := d) (ds := ds) h r, e => by
    cases d with
    | str i =>
      unfold Dn.asStrs at e
      cases q : Dn.asStrs ds with
      | none => rw [q] at e; cases e
      | some l =>
        rw [q] at e
        cases e
        rw [h.str', RpA.asStrs r q]
        rfl
    | _ => cases e
def sumD : List PD → R PD
  | [.list ds] => match asInts ds with
    | some ns => .ok (.int ns.sum)
    | none => .stuck
  | _ => .stuck
theorem n_sum : OpN C (rSum C.K) sumD := fun Y Z H vs xs Q hyz hz hx q => by
  unfold sumD at q
  split at q
  · split at q
    · rename_i ns e
      obtain ⟨v, rfl, h⟩ := hx.one
      obtain ⟨p, ys, rfl, hp, hr⟩ := h.lst hyz
      rw [hr.asInts e] at hp
      exact ⟨p, ns, rfl, SqL.of hp, q _ H (Xt.refl H) (.int _)⟩
    · exact q.elim
  · exact q.elim
def minI : Int → List Int → Int
  | m, [] => m
  | m, x :: r => minI (if x < m then x else m) r
theorem minI_spec : ∀ (r : List Int) (m : Int), (minI m r = m ∨ minI m r ∈ r) ∧ minI m r ≤ m ∧ ∀ y ∈ r, minI m r ≤ y
  | [], m => ⟨.inl rfl, Int.le_refl m, fun _ h => nomatch h⟩
  | x :: r, m => by
    obtain ⟨h1, h2, h3⟩ := minI_spec r (if x < m then x else m)
    refine ⟨?_, ?_, fun y hy => ?_⟩
    · show minI (if x < m then x else m) r = m ∨ minI (if x < m then x else m) r ∈ x :: r
      rcases h1 with h1 | h1
      · rw [h1]
        split
        · exact .inr List.mem_cons_self
        · exact .inl rfl
      · exact .inr (List.mem_cons_of_mem _ h1)
    · show minI (if x < m then x else m) r ≤ m
      split at h2 <;> rename_i h <;> simp only [h, if_true, if_false] <;> omega
    · show minI (if x < m then x else m) r ≤ y
      rcases List.mem_cons.mp hy with rfl | hy
      · split at h2 <;> rename_i h <;> simp only [h, if_true, if_false] <;> omega
      · exact h3 y hy
def minD : List PD → R PD
  | [.list ds] => match asInts ds with
    | some (m :: r) => .ok (.int (minI m r))
    | _ => .stuck
  | [.int i, .int j] => .ok (.int (if j < i then j else i))
  | _ => .stuck
def rMin2 : List V → Hp → VK → Prop := fun xs H Q => ∃ i j, xs = [.int i, .int j] ∧ Q (.int (if j < i then j else i)) H
def rMax2 : List V → Hp → VK → Prop := fun xs H Q => ∃ i j, xs = [.int i, .int j] ∧ Q (.int (if j > i then j else i)) H
def rMinA (K : PySem.W.Frag) := cOr (rMin K) rMin2
theorem c_min {X : Cx} (hc : X.calm = true) : CallR X (.builtin "min") (rMinA X.K) := callOr (cr_min hc) (call_min2 hc)
theorem n_min : OpN C (rMinA C.K) minD := fun Y Z H vs xs Q hyz hz hx q => by
  unfold minD at q
  split at q
  · split at q
    · rename_i m r e
      obtain ⟨v, rfl, h⟩ := hx.one
      obtain ⟨p, ys, rfl, hp, hr⟩ := h.lst hyz
      rw [hr.asInts e] at hp
      refine .inl ⟨p, m :: r, rfl, SqL.of hp, Nat.succ_pos _, fun k hk hle => ?_⟩
      obtain ⟨h1, h2, h3⟩ := minI_spec r m
      have a1 : k ≤ minI m r := hle _ (by
        rcases h1 with h1 | h1
        · rw [h1]; exact List.mem_cons_self
        · exact List.mem_cons_of_mem _ h1)
      have a2 : minI m r ≤ k := by
        rcases List.mem_cons.mp hk with rfl | hk
        · exact h2
        · exact h3 _ hk
      rw [Int.le_antisymm a1 a2]
      exact q _ H (Xt.refl H) (.int _)
    · exact q.elim
  · rename_i i j
    obtain ⟨v, w, rfl, h1, h2⟩ := hx.two
    obtain rfl := h1.int
    obtain rfl := h2.int
    exact .inr ⟨i, j, rfl, q _ H (Xt.refl H) (.int _)⟩
  · exact q.elim
def max2D : List PD → R PD
  | [.int i, .int j] => .ok (.int (if j > i then j else i))
  | _ => .stuck
theorem n_max2 : OpN C rMax2 max2D := fun Y Z H vs xs Q hyz hz hx q => by
  unfold max2D at q
  split at q
  · rename_i i j
    obtain ⟨v, w, rfl, h1, h2⟩ := hx.two
    obtain rfl := h1.int
    obtain rfl := h2.int
    exact ⟨i, j, rfl, q _ H (Xt.refl H) (.int _)⟩
  · exact q.elim
def anyD : List PD → R PD
  | [.list ds] => match asBools ds with
    | some bs => .ok (.bool (bs.any id))
    | none => .stuck
  | _ => .stuck
def allD : List PD → R PD
  | [.list ds] => match asBools ds with
    | some bs => .ok (.bool (bs.all id))
    | none => .stuck
  | _ => .stuck
theorem n_any : OpN C (rAny C.K) anyD := fun Y Z H vs xs Q hyz hz hx q => by
  unfold anyD at q
  split at q
  · split at q
    · rename_i bs e
      obtain ⟨v, rfl, h⟩ := hx.one
      obtain ⟨p, ys, rfl, hp, hr⟩ := h.lst hyz
      rw [hr.asBools e] at hp
      exact ⟨p, bs, rfl, SqL.of hp, q _ H (Xt.refl H) (.bl _)⟩
    · exact q.elim
  · exact q.elim
theorem n_all : OpN C (rAll C.K) allD := fun Y Z H vs xs Q hyz hz hx q => by
  unfold allD at q
  split at q
  · split at q
    · rename_i bs e
      obtain ⟨v, rfl, h⟩ := hx.one
      obtain ⟨p, ys, rfl, hp, hr⟩ := h.lst hyz
      rw [hr.asBools e] at hp
      exact ⟨p, bs, rfl, SqL.of hp, q _ H (Xt.refl H) (.bl _)⟩
    · exact q.elim
  · exact q.elim

/-! ### isinstance -/
def tyN : PD → String
  | .none => "NoneType"
  | .bool _ => "bool"
  | .int _ => "int"
  | .str _ => "str"
  | .list _ => "list"
  | .tuple _ => "tuple"
  | .dict _ => "dict"
theorem RpL.ty {K : PySem.W.Frag} {H : Hp} {Y Z : AS} {v : V} {d : PD} (h : RpL K (hid H Z) (hid H Y) v d) (i : ∀ a, Y a → Z a) : TyX K H v (.type (tyN d)) := by
  cases d with
  | none => rw [h.non]; exact .base .non
  | bool b => rw [h.bl]; exact .base (.bl b)
  | int b => rw [h.int]; exact .base (.int b)
  | str b => rw [h.str]; exact .base (.str b)
  | list ds =>
    obtain ⟨p, xs, rfl, hp, _⟩ := h.lst i
    exact .base (.lst hp)
  | tuple ds =>
    obtain ⟨p, xs, rfl, hp, _⟩ := h.tup i
    rcases hp with (hp | ⟨o, hp⟩) | ⟨o, its, n, h1, h2, _⟩
    · exact .base (.tup hp)
    · exact .fTuple hp
    · exact .kTuple h1 h2
  | dict ds =>
    obtain ⟨p, xs, rfl, hp, _⟩ := h.dct i
    rcases hp with hp | ⟨o, hp⟩
    · exact .base (.dK hp)
    · exact .fDict hp
def isiD (g : PD → Bool) : PD → R PD := fun d => .ok (.bool (g d))
theorem ed_isi {T : String} {g : PD → Bool} (hT : ∀ d, kitB (tyN d) T = some (g d)) (h : EdL C ta fa) : EdS C (tCB (rIsi C.K) (tCons ta (tCons (tC (.ty T)) tNil))) (d1 (isiD g) fa) := fun H0 ext reg en σ H rs Q w =>
  h.seq rs (W := WrS C (own ext reg) H Q) w (fun _ q => q) (fun q => q) fun x v H2 e2 r2 h2 w2 =>
    ⟨v, .ty T, .type (tyN x), .type T, g x, rfl, .ty T, h2.ty fun a z => .inl z, kit_ty (hT x), w2 _ H2 e2 (.bl _)⟩
def isIntD : PD → Bool | .int _ => true | .bool _ => true | _ => false
def isBoolD : PD → Bool | .bool _ => true | _ => false
def isStrD : PD → Bool | .str _ => true | _ => false
def isListD : PD → Bool | .list _ => true | _ => false
def isTupD : PD → Bool | .tuple _ => true | _ => false
def isDictD : PD → Bool | .dict _ => true | _ => false
theorem kit_int (d : PD) : kitB (tyN d) "int" = some (isIntD d) := by cases d <;> simp only [tyN, isIntD] <;> decide +kernel
theorem kit_bool (d : PD) : kitB (tyN d) "bool" = some (isBoolD d) := by cases d <;> simp only [tyN, isBoolD] <;> decide +kernel
theorem kit_str (d : PD) : kitB (tyN d) "str" = some (isStrD d) := by cases d <;> simp only [tyN, isStrD] <;> decide +kernel
theorem kit_list (d : PD) : kitB (tyN d) "list" = some (isListD d) := by cases d <;> simp only [tyN, isListD] <;> decide +kernel
theorem kit_tuple (d : PD) : kitB (tyN d) "tuple" = some (isTupD d) := by cases d <;> simp only [tyN, isTupD] <;> decide +kernel
theorem kit_dict (d : PD) : kitB (tyN d) "dict" = some (isDictD d) := by cases d <;> simp only [tyN, isDictD] <;> decide +kernel

/-! ### calls of defs -/
/-- what a def promises: F of its arguments -/
def spF (C0 : PySem.W.Frag) (cl : Str → Addr) (n : Nat) (F : List PD → R PD) : Sp := fun vs H Q E => ∃ (ext : AS) (ds : List PD), vs.length = n ∧ LamX.Tabs Tabl.T H ∧ (∀ a, ext a → So H a) ∧ RpA C0 (hid H ext) vs ds ∧ WrS ⟨C0, E, cl⟩ ext H Q (F ds)
def dCall (F : List PD → R PD) (fa : En → R (List PD)) : En → R PD := fun en => (fa en).bind F
theorem WrA.len {Z : AS} {H : Hp} {vs : List V} {ds : List PD} {K : PySem.W.Frag} (h : RpA K (hid H Z) vs ds) : vs.length = ds.length := h.length
theorem ed_call {n : Nat} {F : List PD → R PD} {ta : TA} {fa : En → R (List PD)} (hn : ∀ en ds, fa en = .ok ds → ds.length = n) (h : EdA C ta fa) : EdS C (tCall (spF C.K C.cl n F) [] C.E ta) (dCall F fa) := fun H0 ext reg en σ H rs Q w => by
  refine h H0 ext reg en σ H rs _ ?_
  unfold dCall at w
  cases e : fa en with
  | ok ds =>
    rw [e] at w
    exact fun vs H2 e2 h2 => ⟨own ext reg, ds, by rw [List.append_nil, h2.length, hn en ds e], (rs.ex e2).tb, fun a z => (rs.ex e2).so z, by rw [List.append_nil]; exact h2, WrS.ex w e2⟩
  | exc c => rw [e] at w; exact w
  | stuck => rw [e] at w; exact w.elim
end
end Dn

namespace Dn
open PySem L2
variable [Tabl]

/-! ### slots set -/
def drp (reg : Nat → AS) (i : Nat) : Nat → AS := fun j a => j ≠ i ∧ reg j a
def put (reg : Nat → AS) (i : Nat) (p : Addr) : Nat → AS := fun j a => (j ≠ i ∧ reg j a) ∨ (j = i ∧ a = p)
section
variable {K : PySem.W.Frag} {H0 H : Hp} {ext : AS} {reg : Nat → AS} {en : En} {σ : L2.St}
theorem own_drp {i : Nat} {a : Addr} (h : own ext (drp reg i) a) : own ext reg a := by
  rcases h with h | ⟨j, _, h⟩
  · exact .inl h
  · exact .inr ⟨j, h⟩
theorem RS.set (r : RS K H0 ext reg en σ H) {i : Nat} {v : V} {d : PD} (h : Rp K (hid H (own ext reg)) v d) : RS K H0 ext (drp reg i) (en.set i (.sh d)) (σ.set i (some v)) H :=
  ⟨r.le, r.tb, r.exd, fun j a ⟨_, q⟩ => r.rg j a q, fun j k a ⟨_, q⟩ ⟨_, q'⟩ => r.dj j k a q q', fun j a ⟨hj, q⟩ => let ⟨sv, h1, h2⟩ := r.ro j a q; ⟨sv, by rw [List.getElem?_set_ne (Ne.symm hj)]; exact h1, h2⟩, by simp [r.len], fun j sv e => by
    have up : Ex (hid H (own ext reg)) (hid H (own ext (drp reg i))) := (Ex.refl H).hidLess fun a z => own_drp z
    by_cases hj : i = j
    · subst hj
      by_cases hi : i < en.length
      · rw [List.getElem?_set_self hi] at e
        cases e
        exact ⟨some v, by rw [List.getElem?_set_self (by rw [r.len]; exact hi)], v, rfl, h.mono up.le⟩
      · rw [List.getElem?_eq_none (by simpa using hi)] at e
        cases e
    · rw [List.getElem?_set_ne hj] at e
      obtain ⟨u, h1, h2⟩ := r.sl j sv e
      refine ⟨u, by rw [List.getElem?_set_ne hj]; exact h1, ?_⟩
      exact (h2.mono (H' := H) up fun _ _ _ q _ => q).rg fun a q => ⟨fun z => hj z.symm, q⟩⟩
/-- a slot that takes a new thing for its own -/
theorem RS.new (r : RS K H0 ext reg en σ H) {i : Nat} {p : Addr} {o : HO} {sv : SV} (hil : i < en.length) (ho : isOwn sv = true) (hp : H p = none) (h : SlotOk K (hid H (own ext reg)) (upd H p o) (some (.ref p)) (fun a => a = p) sv) (ht : isTb o = false := by rfl) :
    RS K H0 ext (put reg i p) (en.set i sv) (σ.set i (some (.ref p))) (upd H p o) := by
  have h0 : Nn H0 p := r.le.nn (.of hp)
  have sub : ∀ a, own ext (put reg i p) a → own ext reg a ∨ a = p := fun a z => by
    rcases z with z | ⟨j, ⟨_, z⟩ | ⟨_, z⟩⟩
    · exact .inl (.inl z)
    · exact .inl (.inr ⟨j, z⟩)
    · exact .inr z
  have up : Ex (hid H (own ext reg)) (hid (upd H p o) (own ext (put reg i p))) := Ex.of fun a u q => by
    obtain ⟨z, q⟩ := hid_some q
    have ne : a ≠ p := fun e => by
      rw [e, hp] at q
      cases q
    rw [hid_at fun t => (sub a t).elim z ne, upd_ne ne]
    exact q
  refine ⟨r.le.mut h0, (Xt.new hp).t r.tb, r.exd, ?_, ?_, ?_, by simp [r.len], fun j sv' e => ?_⟩
  · rintro j a (⟨hj, q⟩ | ⟨_, rfl⟩)
    · obtain ⟨q1, q2⟩ := r.rg j a q
      exact ⟨q1, (Ex.new hp).so q2⟩
    · exact ⟨h0, o, upd_same, ht⟩
  · rintro j k a (⟨_, q⟩ | ⟨rfl, rfl⟩) (⟨_, q'⟩ | ⟨rfl, e⟩)
    · exact r.dj j k a q q'
    · subst e
      obtain ⟨_, u, q2, _⟩ := r.rg _ _ q
      rw [hp] at q2
      cases q2
    · obtain ⟨_, u, q2, _⟩ := r.rg _ _ q'
      rw [hp] at q2
      cases q2
    · rfl
  · rintro j a (⟨hj, q⟩ | ⟨rfl, _⟩)
    · obtain ⟨sv', h1, h2⟩ := r.ro j a q
      exact ⟨sv', by rw [List.getElem?_set_ne (Ne.symm hj)]; exact h1, h2⟩
    · exact ⟨sv, by rw [List.getElem?_set_self hil], ho⟩
  · by_cases hj : i = j
    · subst hj
      by_cases hi : i < en.length
      · rw [List.getElem?_set_self hi] at e
        cases e
        refine ⟨some (.ref p), by rw [List.getElem?_set_self (by rw [r.len]; exact hi)], ?_⟩
        exact (h.mono (H' := upd H p o) up fun _ _ _ q _ => q).rg fun a q => .inr ⟨rfl, q⟩
      · rw [List.getElem?_eq_none (by simpa using hi)] at e
        cases e
    · rw [List.getElem?_set_ne hj] at e
      obtain ⟨u, h1, h2⟩ := r.sl j sv' e
      refine ⟨u, by rw [List.getElem?_set_ne hj]; exact h1, ?_⟩
      exact (h2.mono (H' := upd H p o) up fun a u' z q n => (Ex.new hp).k a u' q n).rg fun a q => .inl ⟨fun z => hj z.symm, q⟩
/-- what a slot owns is written -/
theorem RS.wr (r : RS K H0 ext reg en σ H) {i : Nat} {p : Addr} {o : HO} {sv : SV} (ho : isOwn sv = true) (hld : ∃ o0, H p = some o0 ∧ isLD o0 = true) (hi : reg i p) (hv : σ[i]? = some (some (.ref p)))
    (h : SlotOk K (hid H (own ext reg)) (upd H p o) (some (.ref p)) (reg i) sv) (ht : isTb o = false := by rfl) : RS K H0 ext reg (en.set i sv) σ (upd H p o) := by
  have same : hid (upd H p o) (own ext reg) = hid H (own ext reg) := hid_upd (.inr ⟨i, hi⟩)
  refine ⟨r.le.mut (r.rg i p hi).1, (let ⟨o0, q1, q2⟩ := hld; tabs_wr r.tb q1 q2 fun a ha => upd_ne ha), r.exd, fun j a q => ⟨(r.rg j a q).1, ?_⟩, r.dj, fun j a q => ?_, by simp [r.len], fun j sv' e => ?_⟩
  · by_cases ha : a = p
    · rw [ha]; exact ⟨o, upd_same, ht⟩
    · obtain ⟨u, q2, q3⟩ := (r.rg j a q).2
      exact ⟨u, by rw [upd_ne ha]; exact q2, q3⟩
  · obtain ⟨sv', h1, h2⟩ := r.ro j a q
    by_cases hj : i = j
    · subst hj
      exact ⟨sv, by rw [List.getElem?_set_self (List.getElem?_eq_some_iff.mp h1).1], ho⟩
    · exact ⟨sv', by rw [List.getElem?_set_ne hj]; exact h1, h2⟩
  · rw [same]
    by_cases hj : i = j
    · subst hj
      by_cases hl : i < en.length
      · rw [List.getElem?_set_self hl] at e
        cases e
        exact ⟨some (.ref p), hv, h⟩
      · rw [List.getElem?_eq_none (by simpa using hl)] at e
        cases e
    · rw [List.getElem?_set_ne hj] at e
      obtain ⟨u, h1, h2⟩ := r.sl j sv' e
      exact ⟨u, h1, h2.mono (Ex.refl _) fun a u' z q _ => by
        rw [upd_ne fun e => by
          rw [e] at z
          exact hj (r.dj i j p hi z)]
        exact q⟩
/-- what a slot owned is shared from now on -/
theorem RS.share (r : RS K H0 ext reg en σ H) {i : Nat} {ds : List PD} (h : en[i]? = some (.ol ds)) : RS K H0 ext (drp reg i) (en.set i (.sh (.list ds))) σ H := by
  obtain ⟨v, h1, p, xs, rfl, hp, hH, hr⟩ := r.sl i _ h
  have up : Ex (hid H (own ext reg)) (hid H (own ext (drp reg i))) := (Ex.refl H).hidLess fun a z => own_drp z
  have np : ¬ own ext (drp reg i) p := fun z => by
    rcases z with z | ⟨j, hj, z⟩
    · exact r.noext hp z
    · exact hj (r.dj j i p z hp)
  have hs : Rp K (hid H (own ext (drp reg i))) (.ref p) (.list ds) := .lst (by rw [hid_at np]; exact hH) (hr.mono up.le)
  refine ⟨r.le, r.tb, r.exd, fun j a ⟨_, q⟩ => r.rg j a q, fun j k a ⟨_, q⟩ ⟨_, q'⟩ => r.dj j k a q q', fun j a ⟨hj, q⟩ => let ⟨sv, h1, h2⟩ := r.ro j a q; ⟨sv, by rw [List.getElem?_set_ne (Ne.symm hj)]; exact h1, h2⟩, by simp [r.len], fun j sv e => ?_⟩
  by_cases hj : i = j
  · subst hj
    rw [List.getElem?_set_self (List.getElem?_eq_some_iff.mp h).1] at e
    cases e
    exact ⟨_, h1, _, rfl, hs⟩
  · rw [List.getElem?_set_ne hj] at e
    obtain ⟨u, h1, h2⟩ := r.sl j sv e
    refine ⟨u, h1, ?_⟩
    exact (h2.mono (H' := H) up fun _ _ _ q _ => q).rg fun a q => ⟨fun z => hj z.symm, q⟩
theorem RS.shareD (r : RS K H0 ext reg en σ H) {i : Nat} {ds : List (PD × PD)} (h : en[i]? = some (.od ds)) : RS K H0 ext (drp reg i) (en.set i (.sh (.dict ds))) σ H := by
  obtain ⟨v, h1, p, xs, rfl, hp, hH, hr⟩ := r.sl i _ h
  have up : Ex (hid H (own ext reg)) (hid H (own ext (drp reg i))) := (Ex.refl H).hidLess fun a z => own_drp z
  have np : ¬ own ext (drp reg i) p := fun z => by
    rcases z with z | ⟨j, hj, z⟩
    · exact r.noext hp z
    · exact hj (r.dj j i p z hp)
  have hs : Rp K (hid H (own ext (drp reg i))) (.ref p) (.dict ds) := .dct (.inl (by rw [hid_at np]; exact hH)) (hr.mono up.le)
  refine ⟨r.le, r.tb, r.exd, fun j a ⟨_, q⟩ => r.rg j a q, fun j k a ⟨_, q⟩ ⟨_, q'⟩ => r.dj j k a q q', fun j a ⟨hj, q⟩ => let ⟨sv, h1, h2⟩ := r.ro j a q; ⟨sv, by rw [List.getElem?_set_ne (Ne.symm hj)]; exact h1, h2⟩, by simp [r.len], fun j sv e => ?_⟩
  by_cases hj : i = j
  · subst hj
    rw [List.getElem?_set_self (List.getElem?_eq_some_iff.mp h).1] at e
    cases e
    exact ⟨_, h1, _, rfl, hs⟩
  · rw [List.getElem?_set_ne hj] at e
    obtain ⟨u, h1, h2⟩ := r.sl j sv e
    refine ⟨u, h1, ?_⟩
    exact (h2.mono (H' := H) up fun _ _ _ q _ => q).rg fun a q => ⟨fun z => hj z.symm, q⟩
/-- a slot forgotten that owns nothing -/
theorem RS.wipeK (r : RS K H0 ext reg en σ H) (i : Nat) (h : ∀ sv, en[i]? = some sv → isOwn sv = false) : RS K H0 ext reg (en.set i .no) (σ.set i none) H :=
  ⟨r.le, r.tb, r.exd, r.rg, r.dj, fun j a q => by
    obtain ⟨sv, h1, h2⟩ := r.ro j a q
    have hj : i ≠ j := fun e => by
      subst e
      rw [h sv h1] at h2
      cases h2
    exact ⟨sv, by rw [List.getElem?_set_ne hj]; exact h1, h2⟩, by simp [r.len], fun j sv e => by
    by_cases hj : i = j
    · subst hj
      by_cases hi : i < en.length
      · rw [List.getElem?_set_self hi] at e
        cases e
        exact ⟨none, by rw [List.getElem?_set_self (by rw [r.len]; exact hi)], trivial⟩
      · rw [List.getElem?_eq_none (by simpa using hi)] at e
        cases e
    · rw [List.getElem?_set_ne hj] at e
      obtain ⟨u, h1, h2⟩ := r.sl j sv e
      exact ⟨u, by rw [List.getElem?_set_ne hj]; exact h1, h2⟩⟩
end

/-! ### targets -/
def gN (i : Nat) : PD → En → R En := fun d en => .ok (en.set i (.sh d))
def gT (n : Nat) (f : List PD → En → R En) : PD → En → R En := fun d en => match d with
  | .tuple ds => if ds.length = n then f ds en else .stuck
  | _ => .stuck
def gNl : List PD → En → R En := fun ds en => match ds with
  | [] => .ok en
  | _ => .stuck
def gCn (f : PD → En → R En) (g : List PD → En → R En) : List PD → En → R En := fun ds en => match ds with
  | d :: r => (f d en).bind fun e => g r e
  | [] => .stuck
/-- what targets at the places ts leave as it was -/
structure Kp (ts : List Nat) (reg reg' : Nat → AS) (σ σ' : L2.St) : Prop where
  r1 : ∀ j a, reg' j a → reg j a
  r2 : ∀ j a, reg j a → j ∉ ts → reg' j a
  s1 : σ'.length = σ.length
  s2 : ∀ j, j ∉ ts → σ'[j]? = σ[j]?
theorem Kp.own {ts : List Nat} {reg reg' : Nat → AS} {σ σ' : L2.St} (k : Kp ts reg reg' σ σ') (ext : AS) : ∀ a, Dn.own ext reg' a → Dn.own ext reg a := fun a z => by
  rcases z with z | ⟨j, z⟩
  · exact .inl z
  · exact .inr ⟨j, k.r1 j a z⟩
def WrG (C : Cn) (ts : List Nat) (H0 : Hp) (ext : AS) (reg : Nat → AS) (σ : L2.St) (H : Hp) (Q : L2.St → Hp → Prop) : R En → Prop
  | .ok en => ∀ reg' σ', Kp ts reg reg' σ σ' → RS C.K H0 ext reg' en σ' H → Q σ' H
  | .exc _ => False
  | .stuck => False
def EdK (C : Cn) (ts : List Nat) (g : TG) (f : PD → En → R En) : Prop := ∀ (H0 : Hp) (ext : AS) (reg : Nat → AS) (en : En) (σ : L2.St) (H : Hp), RS C.K H0 ext reg en σ H → ∀ (v : V) (d : PD), Rp C.K (hid H (own ext reg)) v d → ∀ Q, WrG C ts H0 ext reg σ H Q (f d en) → g v σ H Q
def EdKs (C : Cn) (ts : List Nat) (g : TGs) (f : List PD → En → R En) : Prop := ∀ (H0 : Hp) (ext : AS) (reg : Nat → AS) (en : En) (σ : L2.St) (H : Hp), RS C.K H0 ext reg en σ H → ∀ (v : List V) (d : List PD), RpA C.K (hid H (own ext reg)) v d → ∀ Q, WrG C ts H0 ext reg σ H Q (f d en) → g v σ H Q
section
variable {C : Cn}
theorem ek_name (i : Nat) : EdK C [i] (gName i) (gN i) := fun H0 ext reg en σ H r v d h Q w => w _ _ ⟨fun j a q => q.2, fun j a q hj => ⟨by simpa using hj, q⟩, by simp, fun j hj => by rw [List.getElem?_set_ne fun e => hj (by simp [e])]⟩ (r.set h)
theorem ek_nil : EdKs C [] gNil gNl := fun H0 ext reg en σ H r v d h Q w => by
  cases d with
  | nil => cases h; exact ⟨rfl, w reg σ ⟨fun _ _ q => q, fun _ _ q _ => q, rfl, fun _ _ => rfl⟩ r⟩
  | cons a b => exact w.elim
theorem ek_cons {ts us : List Nat} {g : TG} {gs : TGs} {f : PD → En → R En} {fs : List PD → En → R En} (hg : EdK C ts g f) (hs : EdKs C us gs fs) : EdKs C (ts ++ us) (gCons g gs) (gCn f fs) := fun H0 ext reg en σ H r v d h Q w => by
  cases h with
  | nil => exact w.elim
  | cons h1 h2 =>
    rename_i v vs d ds
    refine ⟨v, vs, rfl, hg H0 ext reg en σ H r v d h1 _ ?_⟩
    unfold gCn at w
    dsimp only at w
    cases e : f d en with
    | ok en' =>
      rw [e] at w
      intro reg' σ' k r'
      refine hs H0 ext reg' en' σ' H r' vs ds (h2.mono ((Ex.refl H).hidLess (k.own ext)).le) Q ?_
      simp only [R.bind_ok] at w
      generalize fs ds en' = x at w ⊢
      cases x with
      | ok e => exact fun reg2 σ2 k2 r2 => w reg2 σ2 ⟨fun j a q => k.r1 j a (k2.r1 j a q), fun j a q hj => k2.r2 j a (k.r2 j a q fun z => hj (List.mem_append_left _ z)) fun z => hj (List.mem_append_right _ z), k2.s1.trans k.s1, fun j hj => (k2.s2 j fun z => hj (List.mem_append_right _ z)).trans (k.s2 j fun z => hj (List.mem_append_left _ z))⟩ r2
      | exc c => exact w
      | stuck => exact w
    | exc c => rw [e] at w; exact w.elim
    | stuck => rw [e] at w; exact w.elim
theorem ek_tup {ts : List Nat} {gs : TGs} {fs : List PD → En → R En} {n : Nat} (hs : EdKs C ts gs fs) : EdK C ts (gTup C.K n gs) (gT n fs) := fun H0 ext reg en σ H r v d h Q w => by
  cases d with
  | tuple ds =>
    unfold gT at w
    dsimp only at w
    cases h with
    | tup h1 h2 =>
      split at w
      · rename_i hl
        exact ⟨_, _, rfl, hid_ex.sqt h1, by rw [h2.length]; exact hl, hs H0 ext reg en σ H r _ ds h2 Q w⟩
      · exact w.elim
  | _ => exact w.elim

/-! ### what is walked -/
def Wk (K : PySem.W.Frag) (J : It) (ds : List PD) (Hs : Hp) : Prop := ∀ (Z : AS) (H : Hp), Ex Hs (hid H Z) → (∀ a, Z a → ∃ o, H a = some o) → ∀ i : Nat,
  (∀ d, ds[i]? = some d → J.go i H ∧ ∀ x H', J.yld i H x H' → Xt H H' ∧ Rp K (hid H' Z) x d) ∧ (ds.length = i → J.stop i H)
def WrI (C : Cn) (Z : AS) (H : Hp) (Rr : It → Hp → Prop) : R (List PD) → Prop
  | .ok ds => ∀ J H2, Xt H H2 → Wk C.K J ds (hid H2 Z) → Rr J H2
  | .exc c => ∀ H2, Xt H H2 → C.E (.ref (C.cl c)) none H2
  | .stuck => False
def EdI (C : Cn) (wi : TI) (f : En → R (List PD)) : Prop := ∀ (H0 : Hp) (ext : AS) (reg : Nat → AS) (en : En) (σ : L2.St) (H : Hp), RS C.K H0 ext reg en σ H → ∀ Rr, WrI C (own ext reg) H Rr (f en) → wi σ H Rr
def asL : PD → R (List PD)
  | .list ds => .ok ds
  | _ => .stuck
def asT : PD → R (List PD)
  | .tuple ds => .ok ds
  | _ => .stuck
def dIt (g : PD → R (List PD)) (fa : En → R PD) : En → R (List PD) := fun en => (fa en).bind g
theorem ei_list {tl : TE} {fa : En → R PD} (h : EdS C tl fa) : EdI C (iList C.K tl) (dIt asL fa) := fun H0 ext reg en σ H rs Q w =>
  h.seq rs (W := WrI C (own ext reg) H Q) w (fun _ q => q) (fun q => q) fun x v H2 e2 r2 h2 w2 => by
    cases x with
    | list ds =>
      cases h2 with
      | lst hp hr =>
        rename_i a xs
        refine ⟨a, rfl, ⟨xs, hid_ex.sql (SqL.of hp)⟩, w2 _ H2 e2 fun Z H' e' hz i => ⟨fun d hd => ?_, fun hl => ⟨xs, SqL.of (hid_ex.l (e'.l hp)), by rw [hr.length]; exact Nat.le_of_eq hl⟩⟩⟩
        obtain ⟨v, hv, hr2⟩ := hr.get hd
        refine ⟨⟨xs, v, SqL.of (hid_ex.l (e'.l hp)), hv⟩, fun x H'' hy => ?_⟩
        obtain ⟨rfl, hy⟩ := hy
        have e : x = v := Option.some.inj ((hy xs (SqL.of (hid_ex.l (e'.l hp)))).symm.trans hv)
        rw [e]
        exact ⟨Xt.refl _, hr2.mono e'.le⟩
    | _ => exact w2.elim
theorem ei_tup {tl : TE} {fa : En → R PD} (h : EdS C tl fa) : EdI C (iTup C.K tl) (dIt asT fa) := fun H0 ext reg en σ H rs Q w =>
  h.seq rs (W := WrI C (own ext reg) H Q) w (fun _ q => q) (fun q => q) fun x v H2 e2 r2 h2 w2 => by
    cases x with
    | tuple ds =>
      cases h2 with
      | tup hp hr =>
        rename_i a xs
        refine ⟨a, rfl, ⟨xs, hid_ex.sqt hp⟩, w2 _ H2 e2 fun Z H' e' hz i => ⟨fun d hd => ?_, fun hl => ⟨xs, hid_ex.sqt (e'.sqt hp), by rw [hr.length]; exact Nat.le_of_eq hl⟩⟩⟩
        obtain ⟨v, hv, hr2⟩ := hr.get hd
        refine ⟨⟨xs, v, hid_ex.sqt (e'.sqt hp), hv⟩, fun x H'' hy => ?_⟩
        obtain ⟨rfl, hy⟩ := hy
        have e : x = v := Option.some.inj ((hy xs (hid_ex.sqt (e'.sqt hp))).symm.trans hv)
        rw [e]
        exact ⟨Xt.refl _, hr2.mono e'.le⟩
    | _ => exact w2.elim
/-- lo, lo + 1, .. below hi -/
def rngL (lo : Int) (n : Nat) : List PD := (List.range n).map fun (i : Nat) => .int (lo + (i : Int))
theorem rngL_get {lo : Int} {n i : Nat} {d : PD} (h : (rngL lo n)[i]? = some d) : i < n ∧ d = .int (lo + (i : Int)) := by
  unfold rngL at h
  rw [List.getElem?_map] at h
  by_cases hi : i < n
  · rw [List.getElem?_range hi] at h
    exact ⟨hi, (Option.some.inj h).symm⟩
  · rw [List.getElem?_eq_none (by simpa using hi)] at h
    cases h
def rng1 : List PD → R (List PD)
  | [.int j] => if -(2 ^ 62) ≤ j ∧ j < 2 ^ 62 then .ok (rngL 0 j.toNat) else .stuck
  | _ => .stuck
def rng2 : List PD → R (List PD)
  | [.int i, .int j] => if (-(2 ^ 62) ≤ i ∧ i < 2 ^ 62) ∧ -(2 ^ 62) ≤ j ∧ j < 2 ^ 62 then .ok (rngL i (j - i).toNat) else .stuck
  | _ => .stuck
def dItA (g : List PD → R (List PD)) (fa : En → R (List PD)) : En → R (List PD) := fun en => (fa en).bind g
theorem wk_rng {K : PySem.W.Frag} {lo : Int} {n : Nat} {Hs : Hp} : Wk K (Itr lo n) (rngL lo n) Hs := fun Z H e hz i => ⟨fun d hd => by
  obtain ⟨h1, rfl⟩ := rngL_get hd
  exact ⟨h1, fun x H' hy => by
    obtain ⟨rfl, rfl⟩ := hy
    exact ⟨Xt.refl _, .int _⟩⟩, fun hl => by
  unfold rngL at hl
  rw [List.length_map, List.length_range] at hl
  exact Nat.le_of_eq hl⟩
theorem ei_rng1 {ta : TA} {fa : En → R (List PD)} (h : EdB C ta fa) : EdI C (iRng1 ta) (dItA rng1 fa) := fun H0 ext reg en σ H rs Q w =>
  h.seq rs (W := WrI C (own ext reg) H Q) w (fun _ q => q) (fun q => q) fun x v H2 e2 r2 h2 w2 => by
    unfold rng1 at w2
    split at w2
    · rename_i j
      split at w2
      · rename_i hl
        obtain ⟨v, rfl, h⟩ := h2.one
        obtain rfl := h.int
        exact ⟨j, rfl, hl.1, hl.2, w2 _ H2 e2 wk_rng⟩
      · exact w2.elim
    · exact w2.elim
theorem ei_rng2 {ta : TA} {fa : En → R (List PD)} (h : EdB C ta fa) : EdI C (iRng2 ta) (dItA rng2 fa) := fun H0 ext reg en σ H rs Q w =>
  h.seq rs (W := WrI C (own ext reg) H Q) w (fun _ q => q) (fun q => q) fun x v H2 e2 r2 h2 w2 => by
    unfold rng2 at w2
    split at w2
    · rename_i i j
      split at w2
      · rename_i hl
        obtain ⟨v, w, rfl, h, h'⟩ := h2.two
        obtain rfl := h.int
        obtain rfl := h'.int
        exact ⟨i, j, rfl, ⟨hl.1.1, hl.1.2, hl.2.1, hl.2.2⟩, w2 _ H2 e2 wk_rng⟩
      · exact w2.elim
    · exact w2.elim
/-- pairs of two lists -/
def zipD (xs ys : List PD) : List PD := (xs.zip ys).map fun p => .tuple [p.1, p.2]
def zip2 : List PD → R (List PD)
  | [.list xs, .list ys] => .ok (zipD xs ys)
  | _ => .stuck
theorem zipD_get {xs ys : List PD} {i : Nat} {d : PD} (h : (zipD xs ys)[i]? = some d) : ∃ x y, xs[i]? = some x ∧ ys[i]? = some y ∧ d = .tuple [x, y] := by
  unfold zipD at h
  rw [List.getElem?_map] at h
  cases e : (xs.zip ys)[i]? with
  | none => rw [e] at h; cases h
  | some p =>
    rw [e] at h
    obtain ⟨h1, h2⟩ := List.getElem?_zip_eq_some.mp e
    exact ⟨_, _, h1, h2, (Option.some.inj h).symm⟩
theorem RpLA.safe2 {K : PySem.W.Frag} {Hs H : Hp} {vs : List V} {ds : List PD} : True := trivial
theorem RpA.two {K : PySem.W.Frag} {H : Hp} {vs : List V} {x y : PD} (h : RpA K H vs [x, y]) : ∃ v w, vs = [v, w] ∧ Rp K H v x ∧ Rp K H w y := by
  cases h with
  | cons a r =>
    cases r with
    | cons b r => cases r; exact ⟨_, _, rfl, a, b⟩
theorem RpA.one {K : PySem.W.Frag} {H : Hp} {vs : List V} {x : PD} (h : RpA K H vs [x]) : ∃ v, vs = [v] ∧ Rp K H v x := by
  cases h with
  | cons a r => cases r; exact ⟨_, rfl, a⟩
theorem ei_zip {ta : TA} {fa : En → R (List PD)} (h : EdA C ta fa) : EdI C (iZip C.K ta) (dItA zip2 fa) := fun H0 ext reg en σ H rs Q w =>
  h.seq rs (W := WrI C (own ext reg) H Q) w (fun _ q => q) (fun q => q) fun x v H2 e2 r2 h2 w2 => by
    unfold zip2 at w2
    split at w2
    · rename_i xs ys
      obtain ⟨v, u, rfl, hv, hu⟩ := h2.two
      cases hv with
      | lst hp hr =>
        cases hu with
        | lst hp' hr' =>
          rename_i a vs b us
          refine ⟨a, b, vs, us, rfl, SqL.of (hid_ex.l hp), SqL.of (hid_ex.l hp'), w2 _ H2 e2 fun Z H' e' hz i => ⟨fun d hd => ?_, fun hl => ?_⟩⟩
          · obtain ⟨x, y, hx, hy, rfl⟩ := zipD_get hd
            obtain ⟨v, hv, rv⟩ := hr.get hx
            obtain ⟨u, hu, ru⟩ := hr'.get hy
            have q1 : SqL C.K H' a vs := SqL.of (hid_ex.l (e'.l hp))
            have q2 : SqL C.K H' b us := SqL.of (hid_ex.l (e'.l hp'))
            refine ⟨⟨vs, us, v, u, q1, q2, hv, hu⟩, ?_⟩
            rintro z H'' ⟨T, x1, y1, rfl, nT, rfl, f1, f2⟩
            have ex : x1 = v := Option.some.inj ((f1 _ q1).symm.trans hv)
            have ey : y1 = u := Option.some.inj ((f2 _ q2).symm.trans hu)
            rw [ex, ey]
            exact ⟨Xt.new nT, Rp.newT hz nT (.cons (rv.mono e'.le) (.cons (ru.mono e'.le) .nil))⟩
          · refine ⟨vs, us, SqL.of (hid_ex.l (e'.l hp)), SqL.of (hid_ex.l (e'.l hp')), ?_⟩
            unfold zipD at hl
            rw [List.length_map, List.length_zip] at hl
            rw [hr.length, hr'.length]
            omega
    · exact w2.elim
/-- enumerate of a list -/
def enumFrom : Nat → List PD → List PD
  | _, [] => []
  | n, x :: r => .tuple [.int (n : Int), x] :: enumFrom (n + 1) r
theorem enumFrom_get : ∀ {xs : List PD} {n i : Nat} {d : PD}, (enumFrom n xs)[i]? = some d → ∃ x, xs[i]? = some x ∧ d = .tuple [.int ((n + i : Nat) : Int), x]
  | [], _, _, _, h => by simp [enumFrom] at h
  | x :: r, n, 0, d, h => ⟨x, rfl, (Option.some.inj h).symm⟩
  | x :: r, n, i + 1, d, h => by
    obtain ⟨y, h1, h2⟩ := enumFrom_get (xs := r) (n := n + 1) (i := i) h
    exact ⟨y, h1, by rw [h2, Nat.add_assoc, Nat.add_comm 1 i]⟩
theorem enumFrom_len : ∀ (xs : List PD) (n : Nat), (enumFrom n xs).length = xs.length
  | [], _ => rfl
  | x :: r, n => by simp [enumFrom, enumFrom_len r]
def enumD : List PD → R (List PD)
  | [.list xs] => .ok (enumFrom 0 xs)
  | _ => .stuck
theorem ei_enum {ta : TA} {fa : En → R (List PD)} (h : EdA C ta fa) : EdI C (iEnum C.K ta) (dItA enumD fa) := fun H0 ext reg en σ H rs Q w =>
  h.seq rs (W := WrI C (own ext reg) H Q) w (fun _ q => q) (fun q => q) fun x v H2 e2 r2 h2 w2 => by
    unfold enumD at w2
    split at w2
    · rename_i xs
      obtain ⟨v, rfl, hv⟩ := h2.one
      cases hv with
      | lst hp hr =>
        rename_i a vs
        refine ⟨a, vs, rfl, SqL.of (hid_ex.l hp), w2 _ H2 e2 fun Z H' e' hz i => ⟨fun d hd => ?_, fun hl => ?_⟩⟩
        · obtain ⟨x, hx, rfl⟩ := enumFrom_get hd
          obtain ⟨v, hv, rv⟩ := hr.get hx
          have q1 : SqL C.K H' a vs := SqL.of (hid_ex.l (e'.l hp))
          refine ⟨⟨vs, v, q1, hv⟩, ?_⟩
          rintro z H'' ⟨T, x1, rfl, nT, rfl, f1⟩
          have ex : x1 = v := Option.some.inj ((f1 _ q1).symm.trans hv)
          rw [ex, Nat.zero_add]
          exact ⟨Xt.new nT, Rp.newT hz nT (.cons (.int _) (.cons (rv.mono e'.le) .nil))⟩
        · refine ⟨vs, SqL.of (hid_ex.l (e'.l hp)), ?_⟩
          rw [enumFrom_len] at hl
          rw [hr.length]
          exact Nat.le_of_eq hl
    · exact w2.elim
/-- the signs of a text -/
def signs : PD → R (List PD)
  | .str z => .ok (z.cps.toList.map fun c => .str ⟨#[c]⟩)
  | _ => .stuck
theorem ei_str {tl : TE} {fa : En → R PD} (h : EdL C tl fa) : EdI C (iStr tl) (dIt signs fa) := fun H0 ext reg en σ H rs Q w =>
  h.seq rs (W := WrI C (own ext reg) H Q) w (fun _ q => q) (fun q => q) fun x v H2 e2 r2 h2 w2 => by
    cases x with
    | str z =>
      refine ⟨z, h2.str, w2 _ H2 e2 fun Z H' e' hz i => ⟨fun d hd => ?_, fun hl => show z.cps.size ≤ i from Nat.le_of_eq (by simpa using hl)⟩⟩
      rw [List.getElem?_map] at hd
      cases e : z.cps.toList[i]? with
      | none => rw [e] at hd; cases hd
      | some c =>
        rw [e] at hd
        have hd := (Option.some.inj hd).symm
        subst hd
        rw [Array.getElem?_toList] at e
        have hi : i < z.cps.size := by
          by_cases hi : i < z.cps.size
          · exact hi
          · rw [Array.getElem?_eq_none (by omega)] at e
            cases e
        refine ⟨hi, ?_⟩
        rintro x H'' ⟨rfl, c', hc, rfl⟩
        rw [e] at hc
        cases hc
        exact ⟨Xt.refl _, .str _⟩
    | _ => exact w2.elim
end
end Dn

namespace Dn
open PySem L2
variable [Tabl]

/-! ### new lists -/
def WrF (C : Cn) (Z : AS) (H : Hp) (Q : VK) : R (List PD) → Prop
  | .ok ds => ∀ p xs H2, Xt H H2 → H2 p = none → RpA C.K (hid H2 Z) xs ds → Q (.ref p) (upd H2 p (.lst xs))
  | .exc c => ∀ H2, Xt H H2 → C.E (.ref (C.cl c)) none H2
  | .stuck => False
def EdF (C : Cn) (te : TE) (f : En → R (List PD)) : Prop := ∀ (H0 : Hp) (ext : AS) (reg : Nat → AS) (en : En) (σ : L2.St) (H : Hp), RS C.K H0 ext reg en σ H → ∀ Q : VK, WrF C (own ext reg) H Q (f en) → te σ H Q
def dF (f : En → R (List PD)) : En → R PD := fun en => (f en).bind fun ds => .ok (.list ds)
section
variable {C : Cn} {ta tb te : TE} {fa fb : En → R PD}
theorem EdF.s {f : En → R (List PD)} (h : EdF C te f) : EdS C te (dF f) := fun H0 ext reg en σ H rs Q w => h H0 ext reg en σ H rs Q (by
  unfold dF at w
  generalize f en = x at w ⊢
  cases x with
  | ok ds => exact fun p xs H2 e2 hp hr => w _ _ (e2.trans (Xt.new hp)) (Rp.newL (fun a z => (rs.ex e2).there z) hp hr)
  | exc c => exact w
  | stuck => exact w)
def chk (ds : List PD) : R (List PD) := if ds.length ≤ szN then .ok ds else .stuck
theorem ef_lst {ta : TA} {fa : En → R (List PD)} (h : EdA C ta fa) : EdF C (tLst ta) (fun en => (fa en).bind chk) := fun H0 ext reg en σ H rs Q w =>
  h.seq rs (W := WrF C (own ext reg) H Q) w (fun _ q => q) (fun q => q) fun x v H2 e2 r2 h2 w2 => by
    unfold chk at w2
    split at w2
    · rename_i hl
      exact ⟨sz_of (by rw [h2.length]; exact hl), fun p hp => w2 p v H2 e2 hp h2⟩
    · exact w2.elim

/-! ### comprehensions -/
def wipeE (en : En) : List Nat → En
  | [] => en
  | v :: vs => (wipeE en vs).set v .no
def free (en : En) (vs : List Nat) : Bool := vs.all fun v => match en[v]? with
  | some sv => !isOwn sv
  | none => true
def lcL (tg : PD → En → R En) (ft : En → R Bool) (fe : En → R PD) (en : En) : List PD → R (List PD)
  | [] => .ok []
  | x :: r => (tg x en).bind fun e => (ft e).bind fun b => match b with
    | true => (fe e).bind fun y => (lcL tg ft fe en r).bind fun ys => .ok (y :: ys)
    | false => lcL tg ft fe en r
def dLc (fi : En → R (List PD)) (tg : PD → En → R En) (ft : En → R Bool) (fe : En → R PD) (vs : List Nat) : En → R (List PD) := fun en => (fi en).bind fun ds =>
  if free en vs = true then ((lcL tg ft fe (wipeE en vs) ds).noexc).bind chk else .stuck
theorem wipeE_get (en : En) : ∀ (vs : List Nat) (j : Nat), (wipeE en vs)[j]? = if j ∈ vs then (en[j]?).map (fun _ => SV.no) else en[j]?
  | [], j => by simp [wipeE]
  | v :: vs, j => by
    unfold wipeE
    rw [List.getElem?_set, wipeE_get en vs]
    have hl : ∀ ws : List Nat, (wipeE en ws).length = en.length := fun ws => by
      induction ws with
      | nil => rfl
      | cons a b ih => unfold wipeE; rw [List.length_set, ih]
    by_cases h : v = j
    · subst h
      rw [if_pos rfl, if_pos List.mem_cons_self, hl]
      by_cases hv : v < en.length
      · rw [if_pos hv, List.getElem?_eq_getElem hv]; rfl
      · rw [if_neg hv, List.getElem?_eq_none (by omega)]; rfl
    · rw [if_neg h]
      by_cases hm : j ∈ vs
      · rw [if_pos hm, if_pos (List.mem_cons_of_mem _ hm)]
      · rw [if_neg hm, if_neg fun z => (List.mem_cons.mp z).elim (fun e => h e.symm) hm]
theorem wipe_get (σ : L2.St) : ∀ (vs : List Nat) (j : Nat), (wipe σ vs)[j]? = if j ∈ vs then (σ[j]?).map (fun _ => none) else σ[j]?
  | [], j => by simp [wipe]
  | v :: vs, j => by
    unfold wipe
    rw [List.getElem?_set, wipe_get σ vs, wipe_length]
    by_cases h : v = j
    · subst h
      rw [if_pos rfl, if_pos List.mem_cons_self]
      by_cases hv : v < σ.length
      · rw [if_pos hv, List.getElem?_eq_getElem hv]; rfl
      · rw [if_neg hv, List.getElem?_eq_none (by omega)]; rfl
    · rw [if_neg h]
      by_cases hm : j ∈ vs
      · rw [if_pos hm, if_pos (List.mem_cons_of_mem _ hm)]
      · rw [if_neg hm, if_neg fun z => (List.mem_cons.mp z).elim (fun e => h e.symm) hm]
theorem RS.wipes {K : PySem.W.Frag} {H0 H : Hp} {ext : AS} {reg : Nat → AS} {en : En} {σ : L2.St} (r : RS K H0 ext reg en σ H) : ∀ (vs : List Nat), free en vs = true → RS K H0 ext reg (wipeE en vs) (wipe σ vs) H
  | [], _ => r
  | v :: vs, h => by
    have h' : (match en[v]? with | some sv => !isOwn sv | none => true) = true ∧ free en vs = true := by
      unfold free at h ⊢
      rw [List.all_cons, Bool.and_eq_true] at h
      exact h
    refine (r.wipes vs h'.2).wipeK v fun sv e => ?_
    rw [wipeE_get] at e
    cases q : en[v]? with
    | none => rw [q] at e; split at e <;> cases e
    | some s =>
      have h1 := h'.1
      rw [q] at e h1
      split at e
      · cases e; rfl
      · cases e
        simpa using h1
theorem ef_lc {wi : TI} {g : TG} {tt : TT} {te : TE} {vs ts : List Nat} {fi : En → R (List PD)} {tg : PD → En → R En} {ft : En → R Bool} {fe : En → R PD}
    (hi : EdI C wi fi) (hg : EdK C.n ts g tg) (ht : EdT C.n tt ft) (he : EdS C.n te fe) (hts : ∀ i ∈ ts, i ∈ vs) : EdF C (tLc wi g tt te vs) (dLc fi tg ft fe vs) := fun H0 ext reg en σ H rs Q w => by
  refine hi H0 ext reg en σ H rs _ ?_
  unfold dLc at w
  cases e : fi en with
  | exc c => rw [e] at w; exact w
  | stuck => rw [e] at w; exact w.elim
  | ok ds =>
    rw [e] at w
    simp only [R.bind_ok] at w
    split at w
    case isFalse => exact w.elim
    rename_i hfree
    cases el : lcL tg ft fe (wipeE en vs) ds with
    | exc c => rw [el] at w; exact w.elim
    | stuck => rw [el] at w; exact w.elim
    | ok all =>
      rw [el] at w
      simp only [R.noexc_ok, R.bind_ok] at w
      unfold chk at w
      split at w
      case isFalse => exact w.elim
      rename_i hlen
      intro J H1 e1 wk Dl hD
      have r1 := rs.ex e1
      -- the heap without the new list
      let del : Hp → Hp := fun H' a => if a = Dl then none else H' a
      have delx : ∀ (H' H'' : Hp), Ex H' H'' → Ex (del H') (del H'') := fun H' H'' q => ⟨fun a o h n => by
        show (if a = Dl then none else H'' a) = some o
        have h' : (if a = Dl then none else H' a) = some o := h
        split at h'
        · cases h'
        · rename_i hn
          rw [if_neg hn]
          exact q.k a o h' n⟩
      have dell : ∀ H' : Hp, Ex (del H') H' := fun H' => Ex.of fun a o h => by
        have h' : (if a = Dl then none else H' a) = some o := h
        split at h'
        · cases h'
        · exact h'
      have delt : ∀ (H' : Hp) (xs : List V), H' Dl = some (.lst xs) → LamX.Tabs Tabl.T H' → LamX.Tabs Tabl.T (del H') := fun H' xs h t => tabs_wr t h rfl fun a ha => by
        show (if a = Dl then none else H' a) = H' a
        rw [if_neg ha]
      have delu : ∀ (H' : Hp) (o : HO), del (upd H' Dl o) = del H' := fun H' o => by
        funext a
        show (if a = Dl then none else upd H' Dl o a) = if a = Dl then none else H' a
        by_cases ha : a = Dl
        · rw [if_pos ha, if_pos ha]
        · rw [if_neg ha, if_neg ha, upd_ne ha]
      have udel : ∀ (H' : Hp) (o : HO), H' Dl = some o → upd (del H') Dl o = H' := fun H' o h => by
        funext a
        by_cases ha : a = Dl
        · rw [ha, upd_same, h]
        · rw [upd_ne ha]
          show (if a = Dl then none else H' a) = H' a
          rw [if_neg ha]
      have del1 : Ex H1 (del (upd H1 Dl (.lst []))) := Ex.of fun a o h => by
        rw [delu]
        show (if a = Dl then none else H1 a) = some o
        rw [if_neg fun z => by rw [z, hD] at h; cases h]
        exact h
      -- owned places, and the new list
      let Z := own ext reg
      let Z' : AS := fun a => Z a ∨ a = Dl
      have zD : ∀ H' : Hp, hid H' Z' = hid (del H') Z := fun H' => by
        funext a
        by_cases ha : a = Dl
        · rw [hid_no (show Z' a from .inr ha)]
          by_cases hz : Z a
          · rw [hid_no hz]
          · rw [hid_at hz]
            show none = if a = Dl then none else H' a
            rw [if_pos ha]
        · by_cases hz : Z a
          · rw [hid_no (show Z' a from .inl hz), hid_no hz]
          · rw [hid_at (fun z : Z' a => z.elim hz ha), hid_at hz]
            show H' a = if a = Dl then none else H' a
            rw [if_neg ha]
      let I : Nat → Nat → Hp → Prop := fun i m H' => m = ds.length - i ∧ i ≤ ds.length ∧ Ex H1 (del H') ∧ LamX.Tabs Tabl.T H' ∧ ∃ xs acc rest, H' Dl = some (.lst xs) ∧ RpA C.K (hid H' Z') xs acc ∧ lcL tg ft fe (wipeE en vs) (ds.drop i) = .ok rest ∧ acc ++ rest = all
      refine ⟨I, ⟨ds.length, by omega, Nat.zero_le _, del1, (Xt.new hD).t r1.tb, [], [], all, upd_same, .nil, by rw [List.drop_zero]; exact el, rfl⟩, ?_⟩
      rintro i m H' ⟨rfl, hi', eH, hTb, xs, acc, rest, hDl, hacc, hrest, hall⟩
      -- the state within the block: the new list is a stranger's
      have eH' : Ex H1 H' := eH.trans (dell H')
      have rB : RS C.K (hid H' fun a => (∃ i, reg i a)) (fun a => ext a ∨ a = Dl) reg (wipeE en vs) (wipe σ vs) H' := by
        have r2 := (r1.ex ⟨eH, fun _ => delt _ _ hDl hTb⟩).wipes vs hfree
        refine ⟨hid_ex, hTb, ?_, ?_, r2.dj, r2.ro, r2.len, ?_⟩
        · rintro a (h | h)
          · obtain ⟨o, q, t⟩ := (dell H').so (r2.le.so (r2.exd a h))
            exact ⟨o, by rw [hid_at fun ⟨i, q2⟩ => r2.noext q2 h]; exact q, t⟩
          · refine ⟨.lst xs, ?_, rfl⟩
            rw [h, hid_at]
            · exact hDl
            · rintro ⟨i, q2⟩
              obtain ⟨o, q3, _⟩ := (r2.rg i _ q2).2
              have q4 : (if Dl = Dl then none else H' Dl) = some o := q3
              rw [if_pos rfl] at q4
              cases q4
        · exact fun j a q => ⟨.of (hid_no ⟨j, q⟩), (dell H').so (r2.rg j a q).2⟩
        · intro j sv q
          obtain ⟨v, h1, h2⟩ := r2.sl j sv q
          refine ⟨v, h1, ?_⟩
          have same : hid H' (own (fun a => ext a ∨ a = Dl) reg) = hid (del H') (own ext reg) := by
            rw [← zD H']
            congr 1
            funext a
            apply propext
            constructor
            · rintro ((h | h) | h)
              · exact .inl (.inl h)
              · exact .inr h
              · exact .inl (.inr h)
            · rintro ((h | h) | h)
              · exact .inl (.inl h)
              · exact .inr h
              · exact .inl (.inr h)
          rw [same]
          exact h2.mono (Ex.refl _) fun p o _ q n => (dell H').k p o q n
      have ownZ : ∀ a, own (fun a => ext a ∨ a = Dl) reg a ↔ Z' a := fun a => by
        constructor
        · rintro ((h | h) | h)
          · exact .inl (.inl h)
          · exact .inr h
          · exact .inl (.inr h)
        · rintro ((h | h) | h)
          · exact .inl (.inl h)
          · exact .inr h
          · exact .inl (.inr h)
      have ownEq : own (fun a => ext a ∨ a = Dl) reg = Z' := funext fun a => propext (ownZ a)
      have wki := wk Z' H' (by
        rw [zD H']
        exact eH.hid) (fun a z => rB.there ((ownZ a).mpr z)) i
      by_cases hlt : i < ds.length
      · refine .inr ?_
        have hd : ds[i]? = some ds[i] := List.getElem?_eq_getElem hlt
        obtain ⟨go, yl⟩ := wki.1 _ hd
        refine ⟨go, fun H'' => I (i + 1) (ds.length - (i + 1)) H'', fun H'' q => ⟨_, by omega, q⟩, fun x H2 hy => ?_⟩
        obtain ⟨e2, hx⟩ := yl x H2 hy
        rw [List.drop_eq_getElem_cons hlt] at hrest
        unfold lcL at hrest
        have rB2 := rB.ex e2
        refine hg _ _ reg _ _ H2 rB2 x ds[i] (by rw [ownEq]; exact hx) _ ?_
        cases etg : tg ds[i] (wipeE en vs) with
        | exc c => rw [etg] at hrest; cases hrest
        | stuck => rw [etg] at hrest; cases hrest
        | ok en2 =>
          rw [etg] at hrest
          simp only [R.bind_ok] at hrest
          intro reg' σ' kp rB3
          -- what is owned is the same
          have ownS : own (fun a => ext a ∨ a = Dl) reg' = Z' := by
            rw [← ownEq]
            funext a
            apply propext
            refine ⟨kp.own _ a, ?_⟩
            rintro (h | ⟨j, h⟩)
            · exact .inl h
            · refine .inr ⟨j, kp.r2 j a h fun hj => ?_⟩
              obtain ⟨sv, h1, h2⟩ := rB.ro j a h
              rw [wipeE_get, if_pos (hts j hj)] at h1
              cases q : en[j]? with
              | none => rw [q] at h1; cases h1
              | some s =>
                rw [q] at h1
                cases h1
                cases h2
          refine ⟨?_, ?_⟩
          · apply List.ext_getElem?
            intro j
            rw [wipe_get, wipe_get]
            by_cases hj : j ∈ vs
            · rw [if_pos hj, if_pos hj]
              by_cases hl : j < σ.length
              · have : j < σ'.length := by rw [kp.s1, wipe_length]; exact hl
                rw [List.getElem?_eq_getElem hl, List.getElem?_eq_getElem this]
                rfl
              · rw [List.getElem?_eq_none (l := σ) (by omega), List.getElem?_eq_none (l := σ') (by rw [kp.s1, wipe_length]; omega)]
            · rw [if_neg hj, if_neg hj, kp.s2 j fun z => hj (hts j z), wipe_get, if_neg hj]
          · refine ht _ _ reg' en2 σ' H2 rB3 _ ?_
            cases eft : ft en2 with
            | exc c => rw [eft] at hrest; cases hrest
            | stuck => rw [eft] at hrest; cases hrest
            | ok b =>
              rw [eft] at hrest
              simp only [R.bind_ok] at hrest
              intro H3 e3
              have rB4 := rB3.ex e3
              have eD3 : Ex H1 (del H3) := eH.trans (delx _ _ (e2.trans e3).toEx)
              have tb3 := (e2.trans e3).t hTb
              cases b with
              | false =>
                show I (i + 1) _ H3
                refine ⟨rfl, hlt, eD3, tb3, xs, acc, rest, e3.l (e2.l hDl), hacc.mono (e2.trans e3).toEx.hid.le, hrest, hall⟩
              | true =>
                show te σ' H3 _
                refine he _ _ reg' en2 σ' H3 rB4 _ ?_
                dsimp only at hrest
                cases efe : fe en2 with
                | exc c => rw [efe] at hrest; cases hrest
                | stuck => rw [efe] at hrest; cases hrest
                | ok y =>
                  rw [efe] at hrest
                  simp only [R.bind_ok] at hrest
                  cases er : lcL tg ft fe (wipeE en vs) (ds.drop (i + 1)) with
                  | exc c => rw [er] at hrest; cases hrest
                  | stuck => rw [er] at hrest; cases hrest
                  | ok ys =>
                    rw [er] at hrest
                    simp only [R.bind_ok] at hrest
                    have hrest := R.ok.inj hrest
                    subst hrest
                    intro v H4 e4 hv
                    have eD4 : H4 Dl = some (.lst xs) := e4.l (e3.l (e2.l hDl))
                    refine ⟨xs, eD4, sz_lt ?_, rfl, hlt, ?_, tabs_wr (e4.t tb3) eD4 rfl fun a ha => upd_ne ha, xs ++ [v], acc ++ [y], ys, upd_same, ?_, er, by rw [← hall, List.append_assoc]; rfl⟩
                    · rw [hacc.length]
                      have : acc.length ≤ all.length := by rw [← hall, List.length_append]; omega
                      omega
                    · rw [delu]
                      exact eD3.trans (delx _ _ e4.toEx)
                    · rw [hid_upd (show Z' Dl from .inr rfl)]
                      refine RpA.app (hacc.mono ((e2.trans e3).trans e4).toEx.hid.le) (.cons ?_ .nil)
                      have hv' : Rp C.K (hid H4 (own (fun a => ext a ∨ a = Dl) reg')) v y := hv
                      rw [ownS] at hv'
                      exact hv'
      · refine .inl ⟨wki.2 (by omega), ?_⟩
        have ei : i = ds.length := by omega
        rw [ei, List.drop_length] at hrest
        have hr0 : rest = [] := (R.ok.inj hrest).symm
        subst hr0
        rw [List.append_nil] at hall
        subst hall
        have := w Dl xs (del H') (e1.trans ⟨eH, fun _ => delt _ _ hDl hTb⟩) (by show (if Dl = Dl then none else H' Dl) = none; rw [if_pos rfl]) (by
          have h := hacc
          rw [zD H'] at h
          exact h)
        rw [udel H' _ hDl] at this
        exact this
end
end Dn

namespace Dn
open PySem L2
variable [Tabl]

/-! ### statements -/
inductive Fl where
  | nx (e : En)
  | rt (d : PD)
  | bk (e : En)
  | ct (e : En)
  /-- a method returns, raises: with what its object is by then -/
  | rm (d : PD) (e : En)
  | rn (ds : List PD) (e : En)
  | xm (c : Str) (e : En)
  /-- a pair is told: the object of a slot, data -/
  | pr (i : Nat) (d : PD) (e : En)
def WS (C : Cn) (H0 : Hp) (ext : AS) (D : Ends) : R Fl → Prop
  | .ok (.nx e) => ∀ reg σ H, RS C.K H0 ext reg e σ H → D.nx σ H
  | .ok (.rt d) => ∀ v H, Ex H0 H → LamX.Tabs Tabl.T H → Rp C.K (hid H ext) v d → D.rt v H
  | .ok (.bk e) => ∀ reg σ H, RS C.K H0 ext reg e σ H → D.bk σ H
  | .ok (.ct e) => ∀ reg σ H, RS C.K H0 ext reg e σ H → D.ct σ H
  | .ok (.rm d e) => ∀ v reg σ H, RS C.K H0 ext reg e σ H → Rp C.K (hid H (own ext reg)) v d → D.rt v H
  | .ok (.rn ds e) => ∀ p xs reg σ H, RS C.K H0 ext reg e σ H → H p = none → RpA C.K (hid H (own ext reg)) xs ds → D.rt (.ref p) (upd H p (.lst xs))
  | .ok (.xm c e) => ∀ reg σ H, RS C.K H0 ext reg e σ H → C.E (.ref (C.cl c)) none H
  | .ok (.pr i d e) => ∀ t p u reg σ H, RS C.K H0 ext reg e σ H → σ[i]? = some (some (.ref p)) → H t = some (.tup [.ref p, u]) → ¬ own ext reg t → Rp C.K (hid H (own ext reg)) u d → D.rt (.ref t) H
  | .exc c => ∀ H, Ex H0 H → LamX.Tabs Tabl.T H → C.E (.ref (C.cl c)) none H
  | .stuck => False
def Es (C : Cn) (ts : TS) (f : En → R Fl) : Prop := ∀ (H0 : Hp) (ext : AS) (reg : Nat → AS) (en : En) (σ : L2.St) (H : Hp), RS C.K H0 ext reg en σ H → ∀ D : Ends, WS C H0 ext D (f en) → ts D σ H
section
variable {C : Cn} {ta tb te : TE} {fa fb fe : En → R PD} {t u : TS} {f g : En → R Fl}
theorem WS.exc {H0 H : Hp} {ext : AS} {D : Ends} {c : Str} (w : WS C H0 ext D (.exc c)) (e : Ex H0 H) (tb : LamX.Tabs Tabl.T H) : ∀ H2, Xt H H2 → C.E (.ref (C.cl c)) none H2 := fun H2 e2 => w H2 (e.trans e2.toEx) (e2.t tb)
def sNil : En → R Fl := fun en => .ok (.nx en)
theorem es_nil : Es C tNext sNil := fun H0 ext reg en σ H rs D w => w reg σ H rs
theorem es_pass : Es C tNext sNil := es_nil
theorem es_cont : Es C tCont (fun en => .ok (.ct en)) := fun H0 ext reg en σ H rs D w => w reg σ H rs
theorem es_brk : Es C tBreak (fun en => .ok (.bk en)) := fun H0 ext reg en σ H rs D w => w reg σ H rs
def sSeq (f g : En → R Fl) : En → R Fl := fun en => (f en).bind fun x => match x with
  | .nx e => g e
  | y => .ok y
theorem es_seq (h : Es C t f) (h' : Es C u g) : Es C (tSeq t u) (sSeq f g) := fun H0 ext reg en σ H rs D w => h H0 ext reg en σ H rs _ (by
  unfold sSeq at w
  generalize f en = x at w ⊢
  cases x with
  | ok fl =>
    cases fl with
    | nx e => exact fun reg' σ' H' r' => h' H0 ext reg' e σ' H' r' D w
    | rt d => exact w
    | bk e => exact w
    | ct e => exact w
    | rm d e => exact w
    | rn d e => exact w
    | xm d e => exact w
    | pr i d e => exact w
  | exc c => exact w
  | stuck => exact w)
/-- x = e -/
def sAsg (i : Nat) (fa : En → R PD) : En → R Fl := fun en => (fa en).bind fun d => .ok (.nx (en.set i (.sh d)))
theorem es_asg {i : Nat} (h : EdS C te fa) : Es C (tAsg te (gName i)) (sAsg i fa) := fun H0 ext reg en σ H rs D w =>
  h.seq rs (W := WS C H0 ext D) w (fun _ q => WS.exc q rs.le rs.tb) (fun q => q) fun d v H2 e2 r2 h2 w2 => w2 _ _ _ (r2.set h2)
/-- targets of other forms -/
def sAsgG (g : PD → En → R En) (fa : En → R PD) : En → R Fl := fun en => (fa en).bind fun d => (g d en).noexc.bind fun e => .ok (.nx e)
theorem es_asgG {ts : List Nat} {g : TG} {gf : PD → En → R En} (h : EdS C te fa) (hg : EdK C ts g gf) : Es C (tAsg te g) (sAsgG gf fa) := fun H0 ext reg en σ H rs D w =>
  h.seq rs (W := WS C H0 ext D) w (fun _ q => WS.exc q rs.le rs.tb) (fun q => q) fun d v H2 e2 r2 h2 w2 => hg H0 ext reg en σ H2 r2 v d h2 _ (by
    generalize gf d en = x at w2 ⊢
    cases x with
    | ok e => exact fun reg' σ' _ r' => w2 reg' σ' H2 r'
    | exc c => exact w2.elim
    | stuck => exact w2.elim)
/-- x = a new list, which the slot owns -/
def sAsgF (i : Nat) (fa : En → R (List PD)) : En → R Fl := fun en => (fa en).bind fun ds => if i < en.length then .ok (.nx (en.set i (.ol ds))) else .stuck
theorem es_asgF {i : Nat} {fa : En → R (List PD)} (h : EdF C te fa) : Es C (tAsg te (gName i)) (sAsgF i fa) := fun H0 ext reg en σ H rs D w => h H0 ext reg en σ H rs _ (by
  unfold sAsgF at w
  generalize fa en = x at w ⊢
  cases x with
  | ok ds =>
    intro p xs H2 e2 hp hr
    simp only [R.bind_ok] at w
    split at w
    · rename_i hi
      exact w _ _ _ ((rs.ex e2).new hi rfl hp ⟨p, xs, rfl, rfl, upd_same, hr⟩)
    · exact w.elim
  | exc c => exact WS.exc w rs.le rs.tb
  | stuck => exact w.elim)
/-- a, b = x, y -/
def sPar (i j : Nat) (fa : En → R (List PD)) : En → R Fl := fun en => (fa en).bind fun ds => match ds with
  | [x, y] => .ok (.nx ((en.set i (.sh x)).set j (.sh y)))
  | _ => .stuck
theorem es_par {i j : Nat} {ta : TA} {fa : En → R (List PD)} (h : EdA C ta fa) : Es C (tPar i j ta) (sPar i j fa) := fun H0 ext reg en σ H rs D w =>
  h.seq rs (W := WS C H0 ext D) w (fun _ q => WS.exc q rs.le rs.tb) (fun q => q) fun ds vs H2 e2 r2 h2 w2 => by
    match ds, w2 with
    | [x, y], w2 =>
      obtain ⟨v, u, rfl, hv, hu⟩ := h2.two
      have r3 := r2.set (i := i) hv
      exact ⟨v, u, rfl, w2 _ _ _ (r3.set (hu.mono ((Ex.refl H2).hidLess fun a z => own_drp z).le))⟩
    | [], w2 => exact w2.elim
    | [_], w2 => exact w2.elim
    | _ :: _ :: _ :: _, w2 => exact w2.elim
/-- return e -/
def sRet (fa : En → R PD) : En → R Fl := fun en => (fa en).bind fun d => .ok (.rt d)
theorem es_ret (h : EdL C te fa) : Es C (tRet te) (sRet fa) := fun H0 ext reg en σ H rs D w =>
  h.seq rs (W := WS C H0 ext D) w (fun _ q => WS.exc q rs.le rs.tb) (fun q => q) fun d v H2 e2 r2 h2 w2 => w2 v H2 r2.le r2.tb (h2.rp (hid_less fun a z => .inl z))
theorem es_retN : Es C tRetN (fun _ => .ok (.rt .none)) := fun H0 ext reg en σ H rs D w => w .non H rs.le rs.tb .non
/-- an expression alone -/
def sDrop (fa : En → R PD) : En → R Fl := fun en => (fa en).bind fun _ => .ok (.nx en)
theorem es_drop (h : EdL C te fa) : Es C (tDrop te) (sDrop fa) := fun H0 ext reg en σ H rs D w =>
  h.seq rs (W := WS C H0 ext D) w (fun _ q => WS.exc q rs.le rs.tb) (fun q => q) fun d v H2 e2 r2 h2 w2 => w2 _ _ _ r2
def sIf (ft : En → R Bool) (f g : En → R Fl) : En → R Fl := fun en => (ft en).bind fun b => match b with
  | true => f en
  | false => g en
theorem es_if {tt : TT} {ft : En → R Bool} (h : EdT C tt ft) (h1 : Es C t f) (h2 : Es C u g) : Es C (tIfS tt t u) (sIf ft f g) := fun H0 ext reg en σ H rs D w =>
  h.seq rs (W := WS C H0 ext D) w (fun _ q => WS.exc q rs.le rs.tb) (fun q => q) fun b H2 e2 r2 w2 => by
    cases b with
    | true => exact h1 H0 ext reg en σ H2 r2 D w2
    | false => exact h2 H0 ext reg en σ H2 r2 D w2
/-- raise -/
def sRaise (c : Str) : En → R Fl := fun _ => .exc c
theorem es_raise (c : Str) : Es C (fun _ σ H => (fun (_ : L2.St) (H : Hp) (Q : XK) => Q (.ref (C.cl c)) none H) σ H fun cls d H' => (fun cls d (_ : L2.St) H => C.E cls d H) cls d σ H') (sRaise c) := fun H0 ext reg en σ H rs D w => w H rs.le rs.tb
/-- xs.append(e), the slot's own list -/
def sApp (i : Nat) (fa : En → R PD) : En → R Fl := fun en => match en[i]? with
  | some (.ol ds) => (fa en).bind fun d => if ds.length + 1 ≤ szN then .ok (.nx (en.set i (.ol (ds ++ [d])))) else .stuck
  | _ => .stuck
theorem RS.at {K : PySem.W.Frag} {H0 H : Hp} {ext : AS} {reg : Nat → AS} {en : En} {σ : L2.St} {i : Nat} {ds : List PD} (r : RS K H0 ext reg en σ H) (h : en[i]? = some (.ol ds)) : ∃ p xs, σ[i]? = some (some (.ref p)) ∧ reg i p ∧ H p = some (.lst xs) ∧ RpA K (hid H (own ext reg)) xs ds := by
  obtain ⟨v, h1, p, xs, rfl, h2, h3, h4⟩ := r.sl i _ h
  exact ⟨p, xs, h1, h2, h3, h4⟩
theorem es_app {i : Nat} (h : EdS C te fa) : Es C (tDrop (tBM C.K "list" rAppend (tVar i) (tCons te tNil))) (sApp i fa) := fun H0 ext reg en σ H rs D w => by
  unfold sApp at w
  cases e : en[i]? with
  | none => rw [e] at w; exact w.elim
  | some sv =>
    rw [e] at w
    cases sv with
    | ol ds =>
      obtain ⟨p, xs, h1, h2, h3, h4⟩ := rs.at e
      refine ⟨.ref p, h1, .inl ⟨rfl, xs, SqL.of h3⟩, h.seq rs (W := WS C H0 ext D) w (fun _ q => WS.exc q rs.le rs.tb) (fun q => q) fun d v H2 e2 r2 h5 w2 => ?_⟩
      split at w2
      · rename_i hl
        refine ⟨p, xs, v, rfl, rfl, e2.l h3, sz_lt (by rw [h4.length]; omega), w2 _ _ _ (r2.wr (sv := .ol (ds ++ [d])) rfl ⟨_, e2.l h3, rfl⟩ h2 h1 ?_)⟩
        exact ⟨p, xs ++ [v], rfl, h2, upd_same, (h4.mono e2.toEx.hid.le).app (.cons h5 .nil)⟩
      · exact w2.elim
    | _ => exact w.elim
/-- xs.extend(ys) -/
def sExt (i : Nat) (fa : En → R PD) : En → R Fl := fun en => match en[i]? with
  | some (.ol ds) => (fa en).bind fun d => match d with
    | .list es => if ds.length + es.length ≤ szN then .ok (.nx (en.set i (.ol (ds ++ es)))) else .stuck
    | _ => .stuck
  | _ => .stuck
theorem es_ext {i : Nat} (h : EdS C te fa) : Es C (tDrop (tBM C.K "list" rExtend (tVar i) (tCons te tNil))) (sExt i fa) := fun H0 ext reg en σ H rs D w => by
  unfold sExt at w
  cases e : en[i]? with
  | none => rw [e] at w; exact w.elim
  | some sv =>
    rw [e] at w
    cases sv with
    | ol ds =>
      obtain ⟨p, xs, h1, h2, h3, h4⟩ := rs.at e
      refine ⟨.ref p, h1, .inl ⟨rfl, xs, SqL.of h3⟩, h.seq rs (W := WS C H0 ext D) w (fun _ q => WS.exc q rs.le rs.tb) (fun q => q) fun d v H2 e2 r2 h5 w2 => ?_⟩
      cases d with
      | list es =>
        dsimp only at w2
        split at w2
        · rename_i hl
          cases h5 with
          | lst hb hr =>
            rename_i b ys
            refine ⟨p, b, xs, ys, rfl, rfl, e2.l h3, hid_ex.l hb, sz_of (by rw [h4.length, hr.length]; omega), w2 _ _ _ (r2.wr (sv := .ol (ds ++ es)) rfl ⟨_, e2.l h3, rfl⟩ h2 h1 ?_)⟩
            exact ⟨p, xs ++ ys, rfl, h2, upd_same, (h4.mono e2.toEx.hid.le).app hr⟩
        · exact w2.elim
      | _ => exact w2.elim
    | _ => exact w.elim
/-- what the slot owned is shared from here on -/
def sShare (i : Nat) : En → En := fun en => match en[i]? with
  | some (.ol ds) => en.set i (.sh (.list ds))
  | some (.od es) => en.set i (.sh (.dict es))
  | _ => en
theorem es_share (i : Nat) (h : Es C t f) : Es C t (fun en => f (sShare i en)) := fun H0 ext reg en σ H rs D w => by
  dsimp only at w
  unfold sShare at w
  cases e : en[i]? with
  | none => rw [e] at w; exact h H0 ext reg en σ H rs D w
  | some sv =>
    rw [e] at w
    cases sv with
    | ol ds => exact h H0 ext _ _ σ H (rs.share e) D w
    | od es => exact h H0 ext _ _ σ H (rs.shareD e) D w
    | no => exact h H0 ext reg en σ H rs D w
    | sh d => exact h H0 ext reg en σ H rs D w
    | rl d => exact h H0 ext reg en σ H rs D w
    | fz d => exact h H0 ext reg en σ H rs D w
    | xr d => exact h H0 ext reg en σ H rs D w
    | ob m c ns fs => exact h H0 ext reg en σ H rs D w
    | vw c ns ds => exact h H0 ext reg en σ H rs D w
    | bd es => exact h H0 ext reg en σ H rs D w
    | bz es => exact h H0 ext reg en σ H rs D w
def noXm : R Fl → R Fl
  | .ok (.xm _ _) => .stuck
  | r => r
theorem es_nox (h : Es C.n t f) : Es C t (fun en => noXm (f en).noexc) := fun H0 ext reg en σ H rs D w => h H0 ext reg en σ H rs D (by
  dsimp only at w
  generalize f en = x at w ⊢
  cases x with
  | ok fl => cases fl <;> first | exact w | exact False.elim w
  | exc c => exact w.elim
  | stuck => exact w)

/-! ### loops -/
def loopF (tg : PD → En → R En) (body : En → R Fl) : List PD → En → R Fl
  | [], en => .ok (.nx en)
  | x :: r, en => (tg x en).noexc.bind fun e => (body e).bind fun fl => match fl with
    | .nx e2 => loopF tg body r e2
    | .ct e2 => loopF tg body r e2
    | .bk e2 => .ok (.nx e2)
    | .rt d => .ok (.rt d)
    | .rm d e2 => .ok (.rm d e2)
    | .rn d e2 => .ok (.rn d e2)
    | .xm d e2 => .ok (.xm d e2)
    | .pr i d e2 => .ok (.pr i d e2)
def sFor (fi : En → R (List PD)) (tg : PD → En → R En) (body : En → R Fl) : En → R Fl := fun en => (fi en).bind fun ds => loopF tg body ds en
theorem es_for {wi : TI} {g : TG} {tb : TS} {ts : List Nat} {fi : En → R (List PD)} {tg : PD → En → R En} {body : En → R Fl} (hi : EdI C wi fi) (hg : EdK C ts g tg) (hb : Es C tb body) : Es C (tFor wi g tb) (sFor fi tg body) := fun H0 ext reg en σ H rs D w => by
  refine hi H0 ext reg en σ H rs _ ?_
  unfold sFor at w
  cases e : fi en with
  | exc c => rw [e] at w; exact WS.exc w rs.le rs.tb
  | stuck => rw [e] at w; exact w.elim
  | ok ds =>
    rw [e] at w
    simp only [R.bind_ok] at w
    intro J H1 e1 wk
    have r1 := rs.ex e1
    -- the ground of the loop
    have rL := r1.lift
    have gL := r1.lift_le
    generalize hG : hid H1 (fun a => ∃ i, reg i a) = G at rL gL
    refine ⟨fun i m σ' H' => m = ds.length - i ∧ i ≤ ds.length ∧ ∃ reg' en', RS C.K G ext reg' en' σ' H' ∧ WS C H0 ext D (loopF tg body (ds.drop i) en'), ⟨ds.length, by omega, Nat.zero_le _, reg, en, rL, by rw [List.drop_zero]; exact w⟩, ?_⟩
    rintro i m σ' H' ⟨rfl, hi', reg', en', r', w'⟩
    have stands0 : ∀ a o, hid H1 (own ext reg) a = some o → isTb o = false → G a = some o ∧ hid H' (own ext reg') a = H' a := fun a o h n => by
      obtain ⟨z, h⟩ := hid_some h
      have hg0 : G a = some o := by
        rw [← hG, hid_at fun q => z (.inr q)]
        exact h
      refine ⟨hg0, hid_at fun q => ?_⟩
      rcases q with q | ⟨j, q⟩
      · exact z (.inl q)
      · exact So.nn ⟨o, hg0, n⟩ (r'.rg j a q).1
    have stands : Ex (hid H1 (own ext reg)) (hid H' (own ext reg')) := ⟨fun a o h n => by
      obtain ⟨h1, h2⟩ := stands0 a o h n
      rw [h2]
      exact r'.le.k a o h1 n⟩
    have wki := wk (own ext reg') H' stands (fun a z => r'.there z) i
    by_cases hlt : i < ds.length
    · refine .inr ?_
      have hd : ds[i]? = some ds[i] := List.getElem?_eq_getElem hlt
      obtain ⟨go, yl⟩ := wki.1 _ hd
      refine ⟨go, fun σ2 H2 => ∃ reg2 en2, RS C.K G ext reg2 en2 σ2 H2 ∧ WS C H0 ext D (loopF tg body (ds.drop (i + 1)) en2), fun σ2 H2 ⟨reg2, en2, a, b⟩ => ⟨_, by omega, rfl, hlt, reg2, en2, a, b⟩, fun x H2 hy => ?_⟩
      obtain ⟨e2, hx⟩ := yl x H2 hy
      rw [List.drop_eq_getElem_cons hlt] at w'
      unfold loopF at w'
      refine hg G ext reg' en' σ' H2 (r'.ex e2) x ds[i] hx _ ?_
      cases etg : tg ds[i] en' with
      | exc c => rw [etg] at w'; exact w'.elim
      | stuck => rw [etg] at w'; exact w'.elim
      | ok en2 =>
        rw [etg] at w'
        simp only [R.noexc_ok, R.bind_ok] at w'
        intro reg2 σ2 _ r2
        refine hb G ext reg2 en2 σ2 H2 r2 _ ?_
        have ext0 : ∀ a, ext a → So H0 a := rs.exd
        cases eb : body en2 with
        | exc c => rw [eb] at w'; exact fun H3 q tb => w' H3 (gL.trans q) tb
        | stuck => rw [eb] at w'; exact w'.elim
        | ok fl =>
          rw [eb] at w'
          simp only [R.bind_ok] at w'
          cases fl with
          | nx e3 => exact fun reg3 σ3 H3 r3 => ⟨reg3, e3, r3, w'⟩
          | ct e3 => exact fun reg3 σ3 H3 r3 => ⟨reg3, e3, r3, w'⟩
          | bk e3 => exact fun reg3 σ3 H3 r3 => w' reg3 σ3 H3 (r3.ground gL ext0)
          | rt d => exact fun v H3 q tb h3 => w' v H3 (gL.trans q) tb h3
          | rm d e3 => exact fun v reg3 σ3 H3 r3 h3 => w' v reg3 σ3 H3 (r3.ground gL ext0) h3
          | rn d e3 => exact fun p xs reg3 σ3 H3 r3 hp hx => w' p xs reg3 σ3 H3 (r3.ground gL ext0) hp hx
          | xm d e3 => exact fun reg3 σ3 H3 r3 => w' reg3 σ3 H3 (r3.ground gL ext0)
          | pr i d e3 => exact fun t p u reg3 σ3 H3 r3 a b c d => w' t p u reg3 σ3 H3 (r3.ground gL ext0) a b c d
    · refine .inl ⟨wki.2 (by omega), ?_⟩
      have ei : i = ds.length := by omega
      rw [ei, List.drop_length] at w'
      exact w' reg' σ' H' (r'.ground gL rs.exd)
def loopW (ft : En → R Bool) (body : En → R Fl) : Nat → En → R Fl
  | 0, _ => .stuck
  | n + 1, en => (ft en).bind fun b => match b with
    | false => .ok (.nx en)
    | true => (body en).bind fun fl => match fl with
      | .nx e2 => loopW ft body n e2
      | .ct e2 => loopW ft body n e2
      | .bk e2 => .ok (.nx e2)
      | .rt d => .ok (.rt d)
      | .rm d e2 => .ok (.rm d e2)
      | .rn d e2 => .ok (.rn d e2)
      | .xm d e2 => .ok (.xm d e2)
      | .pr i d e2 => .ok (.pr i d e2)
def sWhile (fuel : Nat) (ft : En → R Bool) (body : En → R Fl) : En → R Fl := loopW ft body fuel
theorem es_while {tt : TT} {tb : TS} {ft : En → R Bool} {body : En → R Fl} (fuel : Nat) (ht : EdT C tt ft) (hb : Es C tb body) : Es C (tWhile tt tb) (sWhile fuel ft body) := fun H0 ext reg en σ H rs D w => by
  refine ⟨fun m σ' H' => ∃ reg' en', RS C.K H0 ext reg' en' σ' H' ∧ WS C H0 ext D (loopW ft body m en'), ⟨fuel, reg, en, rs, w⟩, ?_⟩
  rintro m σ' H' ⟨reg', en', r', w'⟩
  cases m with
  | zero => exact w'.elim
  | succ n =>
    unfold loopW at w'
    refine ht.seq r' (W := WS C H0 ext D) w' (fun _ q => WS.exc q r'.le r'.tb) (fun q => q) fun b H2 e2 r2 w2 => ?_
    cases b with
    | false => exact w2 reg' σ' H2 r2
    | true =>
      refine ⟨fun σ3 H3 => ∃ reg3 en3, RS C.K H0 ext reg3 en3 σ3 H3 ∧ WS C H0 ext D (loopW ft body n en3), fun σ3 H3 q => ⟨n, Nat.lt_succ_self n, q⟩, hb H0 ext reg' en' σ' H2 r2 _ ?_⟩
      dsimp only at w2
      cases eb : body en' with
      | exc c => rw [eb] at w2; exact w2
      | stuck => rw [eb] at w2; exact w2.elim
      | ok fl =>
        rw [eb] at w2
        simp only [R.bind_ok] at w2
        cases fl with
        | nx e3 => exact fun reg3 σ3 H3 r3 => ⟨reg3, e3, r3, w2⟩
        | ct e3 => exact fun reg3 σ3 H3 r3 => ⟨reg3, e3, r3, w2⟩
        | bk e3 => exact fun reg3 σ3 H3 r3 => w2 reg3 σ3 H3 r3
        | rt d => exact fun v H3 q tb h3 => w2 v H3 q tb h3
        | rm d e3 => exact w2
        | rn d e3 => exact w2
        | xm d e3 => exact w2
        | pr i d e3 => exact w2
end

/-! ### a def -/
def runB (N : Nat) (f : En → R Fl) (ds : List PD) : R PD := (f (ds.map SV.sh ++ List.replicate (N - ds.length) SV.no)).bind fun fl => match fl with
  | .nx _ => .ok .none
  | .rt d => .ok d
  | _ => .stuck
theorem RS.start {K : PySem.W.Frag} {H : Hp} {ext : AS} {vs : List V} {ds : List PD} {N : List Str} (tb : LamX.Tabs Tabl.T H) (hx : ∀ a, ext a → So H a) (h : RpA K (hid H ext) vs ds) : RS K H ext (fun _ _ => False) (ds.map SV.sh ++ List.replicate (N.length - ds.length) SV.no) (L2.start N vs) H := by
  have ho : own ext (fun _ _ => False) = ext := by
    funext a
    apply propext
    constructor
    · rintro (h | ⟨_, h⟩)
      · exact h
      · exact h.elim
    · exact fun h => .inl h
  refine ⟨Ex.refl H, tb, hx, fun _ _ h => h.elim, fun _ _ _ h => h.elim, fun _ _ h => h.elim, ?_, fun i sv e => ?_⟩
  · unfold L2.start
    rw [List.length_append, List.length_append, List.length_map, List.length_map, List.length_replicate, List.length_replicate, h.length]
  · rw [ho]
    unfold L2.start
    by_cases hi : i < ds.length
    · rw [List.getElem?_append_left (by rw [List.length_map]; exact hi), List.getElem?_map, List.getElem?_eq_getElem hi] at e
      cases e
      obtain ⟨v, h1, h2⟩ := h.get (List.getElem?_eq_getElem hi)
      refine ⟨some v, ?_, v, rfl, h2⟩
      rw [List.getElem?_append_left (by rw [List.length_map, h.length]; exact hi), List.getElem?_map, h1]
      rfl
    · rw [List.getElem?_append_right (by rw [List.length_map]; omega), List.length_map, List.getElem?_replicate] at e
      split at e
      · rename_i hl
        cases e
        refine ⟨none, ?_, trivial⟩
        rw [List.getElem?_append_right (by rw [List.length_map, h.length]; omega), List.length_map, List.getElem?_replicate, h.length, if_pos hl]
      · cases e
section
variable {P : Program} {w : World} {K : PySem.W.Frag} {mg : Str → Option Value} {base : Heap}
/-- a def that may raise; its errors have no context -/
theorem okN {x qual : Str} {st : Stmt} {f : Addr} {fd : FuncData} {N ps : List Str} {k : Nat} {sp : Sp} (F : Fun K x qual st f fd) (S : FnScope N ps (defScope st)) (hl : ∀ vs H Q E, sp vs H Q E → vs.length = ps.length)
    (hb : ∀ (cdv : Value) (A : Around) (outer : List Env) (s : Shared) (H : Hp) (vs : List V) (Q : VK) (E : XK), Room k (A.deeper (PyProof.Rows.envOfC qual (defScope st) s.heap.objs.size f cdv)) → sp vs H Q E →
      ∃ t, PSs (cxOf (L2N.CX P w) P w K mg base N qual (defScope st) f cdv A outer s H E) (defBody st) t ∧ t { nx := fun _ H' => Q .non H', rt := Q } (L2.start N vs) H) : FnOk P w K mg base (L2N.CX P w) (k + 1) f fd ps sp := by
  obtain ⟨v1, v2, v3, v4, v5, v6, v7, v8, v9, rfl, h1, h2⟩ := F.ex
  exact fn_of h1 h2 S hl fun A outer s H vs Q E r q => hb v7 A outer s H vs Q E r q
theorem passN {X : Cx} : Passes (L2N.CX X.prog X.w) X E0 := fun _ _ _ _ _ _ _ h => by
  obtain ⟨_, _, _, _, _, _, _, _, _, _, _, _, z⟩ := h
  exact z.elim
theorem def_ok {x qual : Str} {st : Stmt} {f : Addr} {fd : FuncData} {N ps : List Str} {k : Nat} {cl : Str → Addr} {body : En → R Fl} (F : Fun K x qual st f fd) (S : FnScope N ps (defScope st))
    (hb : ∀ (cdv : Value) (A : Around) (outer : List Env) (s : Shared) (H : Hp) (E : XK), Room k (A.deeper (PyProof.Rows.envOfC qual (defScope st) s.heap.objs.size f cdv)) →
      ∃ t, PSs (cxOf (L2N.CX P w) P w K mg base N qual (defScope st) f cdv A outer s H E) (defBody st) t ∧ Es ⟨K, E, cl⟩ t body) :
    FnOk P w K mg base (L2N.CX P w) (k + 1) f fd ps (spF K cl ps.length (runB N.length body)) := by
  refine okN F S (fun vs H Q E h => h.choose_spec.choose_spec.1) fun cdv A outer s H vs Q E hr h => ?_
  obtain ⟨t, ht, hs⟩ := hb cdv A outer s H E hr
  refine ⟨t, ht, ?_⟩
  obtain ⟨ext, ds, hl, htb, hx, hv, wr⟩ := h
  refine hs H ext (fun _ _ => False) _ _ H (RS.start htb hx hv) _ ?_
  unfold runB at wr
  generalize body (ds.map SV.sh ++ List.replicate (N.length - ds.length) SV.no) = r at wr ⊢
  cases r with
  | ok fl =>
    cases fl with
    | nx e => exact fun reg σ H2 r2 => wr .non H2 ⟨r2.le, fun _ => r2.tb⟩ .non
    | rt d => exact fun v H2 e2 tb h2 => wr v H2 ⟨e2, fun _ => tb⟩ h2
    | bk e => exact wr.elim
    | ct e => exact wr.elim
    | rm d e => exact wr.elim
    | rn d e => exact wr.elim
    | xm d e => exact wr.elim
    | pr i d e => exact wr.elim
  | exc c => exact fun H2 e2 tb => wr H2 ⟨e2, fun _ => tb⟩
  | stuck => exact wr.elim
end
end Dn

namespace Dn
open PySem L2
variable [Tabl]

/-! ### small words of the printed text -/
def sSh (i : Nat) (f : En → R Fl) : En → R Fl := fun en => f (sShare i en)
def sNx (f : En → R Fl) : En → R Fl := fun en => noXm (f en).noexc
def sRetN : En → R Fl := fun _ => .ok (.rt .none)
def sCont : En → R Fl := fun en => .ok (.ct en)
def sBrk : En → R Fl := fun en => .ok (.bk en)
def dLst (fa : En → R (List PD)) : En → R (List PD) := fun en => (fa en).bind chk
def dYes : En → R Bool := fun _ => .ok true
section
variable {C : Cn} {X : Cx}
theorem et_yes : EdT C tYes dYes := fun H0 ext reg en σ H rs Q w => w H (Xt.refl H)
theorem c_len : CallR X (.builtin "len") (rLenA X.K) := call_len
theorem c_abs : CallR X (.builtin "abs") rAbs := call_abs
theorem c_int : CallR X (.type "int") rInt1 := call_int1
theorem c_max2 (hc : X.calm = true) : CallR X (.builtin "max") rMax2 := call_max2 hc
theorem hn_nil : ∀ (en : En) (ds : List PD), dNil en = .ok ds → ds.length = 0 := fun en ds h => by
  cases h
  rfl
theorem hn_cons {fa : En → R PD} {fr : En → R (List PD)} {n : Nat} (h : ∀ (en : En) (ds : List PD), fr en = .ok ds → ds.length = n) : ∀ (en : En) (ds : List PD), dCons fa fr en = .ok ds → ds.length = n + 1 := fun en ds q => by
  unfold dCons at q
  cases e : fa en with
  | ok x =>
    rw [e] at q
    simp only [R.bind_ok] at q
    cases e2 : fr en with
    | ok r =>
      rw [e2] at q
      simp only [R.bind_ok] at q
      cases q
      rw [List.length_cons, h en r e2]
    | exc c => rw [e2] at q; cases q
    | stuck => rw [e2] at q; cases q
  | exc c => rw [e] at q; cases q
  | stuck => rw [e] at q; cases q
end

/-! ### z[::-1] of a text -/
def revS (z : Str) : Str := ⟨z.cps.toList.reverse.toArray⟩
theorem revS_len (z : Str) : (revS z).length = z.length := by
  show z.cps.toList.reverse.toArray.size = z.cps.size
  simp
theorem sidx_rev (n : Nat) : Builtin.Str.strSliceIndices none none (-1) n = (List.range n).reverse := by
  show sliceRange ((n : Int) - 1) (-1) (-1) = _
  rw [PySem.W.krv_sliceRange, PySem.W.krv_range]
def tRevS (te : TE) : TE := fun σ H Q => te σ H fun x H1 => ∃ z, x = .str z ∧ z.length ≤ sizeLine ∧ Q (.str (revS z)) H1
section
variable {X : Cx}
theorem pe_revS {e : Expr} {te : TE} {k : Nat} {p1 p2 p3 pos : Pos} (he : PE X e te) : PE X (.Subscript e (.Slice none none (some (.UnaryOp .USub (.Constant (.int 1) k p1) p2)) p3) pos) (tRevS te) := by
  refine ⟨fun pins s σ H Q I h => ?_⟩
  refine PyProof.Rows.Subscript_ (thn (he.run pins s σ H _ I h) fun v s1 ⟨x, H1, I1, r1, q1⟩ => ?_)
  obtain ⟨z, ex, hz, q⟩ := q1
  subst ex
  obtain ⟨t, rfl⟩ := r1
  have hst : PO X (some (.UnaryOp .USub (.Constant (.int 1) k p1) p2)) (tPart (tUn (rU fun i => .int (-i)) (tC (.int 1)))) := po_some (pe_un un_neg pe_int)
  refine wpAny_Slice (thn (po_none.run pins s1 σ H1 (fun o H2 => o = none ∧ H2 = H1) I1 ⟨rfl, rfl⟩) fun vl s2 ⟨l, H2, I2, pl, el, e2⟩ => ?_)
  subst el e2
  refine thn (po_none.run pins s2 σ H2 (fun o H3 => o = none ∧ H3 = H2) I2 ⟨rfl, rfl⟩) fun vu s3 ⟨u, H3, I3, pu, eu, e3⟩ => ?_
  subst eu e3
  refine thn (hst.run pins s3 σ H3 (fun o H4 => o = some (-1) ∧ H4 = H3) I3 ⟨1, rfl, -1, rfl, rfl, rfl⟩) fun vs s4 ⟨o, H4, I4, ps, eo, e4⟩ => ?_
  subst eo e4
  have I5 : Inv X pins σ H4 { s4 with heap := s4.heap.push { cls := .type "slice", data := .fields #[vl, vu, vs] } } := I4.kept (t' := s4.toks) fun b ob q => Heap.get?_push_of_some _ q
  show wpAny (model X.prog X.w) X.A (PyProof.Rows.subscriptTail e (.Slice none none (some (.UnaryOp .USub (.Constant (.int 1) k p1) p2)) p3) (.str z t) (.ref s4.heap.objs.size)) (EP X pins σ Q) X.xe { s4 with heap := s4.heap.push { cls := .type "slice", data := .fields #[vl, vu, vs] } }
  cases pl
  cases pu
  cases ps with
  | int _ t2 =>
    refine PyProof.Rows.tail_any (ops := [.str z t, .ref s4.heap.objs.size]) (typeIs_str _ _ _) F.slot_str_getitem.lookup ?_ (by with_unfolding_all rfl)
    refine wpAny_getItem_str_slice (l := none) (u := none) (st := some (-1, t2)) ⟨_, Heap.get?_push_size _ rfl, rfl, rfl⟩ rfl ?_
    show Made.post (if ((-1 : Int) == 1 && (Builtin.Str.strSliceIndices none none (-1) z.length).length == z.length) = true then Made.val (.str z t)
      else Made.str ⟨((Builtin.Str.strSliceIndices none none (-1) z.length).filterMap (z.cps[·]?)).toArray⟩) (EP X pins σ Q) _
    rw [if_neg (by simp), sidx_rev, List.filterMap_reverse, show z.length = z.cps.size from rfl, PySem.W.krv_all]
    refine ⟨?_, .str _, H4, I5.tok _, ⟨_, rfl⟩, q⟩
    have h := revS_len z
    have h2 : (revS z).length ≤ sizeLine := by rw [h]; exact hz
    exact h2
def tOrE (t u : TE) : TE := fun σ H Q => t σ H Q ∨ u σ H Q
theorem pe_orE {e : Expr} {t u : TE} (h : PE X e t) (h' : PE X e u) : PE X e (tOrE t u) := ⟨fun pins s σ H Q I q => by
  rcases q with q | q
  · exact h.run pins s σ H Q I q
  · exact h'.run pins s σ H Q I q⟩
def tRev (K : PySem.W.Frag) (te : TE) : TE := tOrE (tRevL K te) (tRevS te)
theorem pe_rev {e : Expr} {te : TE} {k : Nat} {p1 p2 p3 pos : Pos} (he : PE X e te) : PE X (.Subscript e (.Slice none none (some (.UnaryOp .USub (.Constant (.int 1) k p1) p2)) p3) pos) (tRev X.K te) := pe_orE (pe_revL he) (pe_revS he)
end
def revD : PD → R PD
  | .list ds => .ok (.list ds.reverse)
  | .str z => if z.length ≤ szN then .ok (.str (revS z)) else .stuck
  | _ => .stuck
section
variable {C : Cn} {ta : TE} {fa : En → R PD}
theorem ed_rev (h : EdL C ta fa) : EdS C (tRev C.K ta) (d1 revD fa) := fun H0 ext reg en σ H rs Q w => by
  unfold d1 at w
  cases e : fa en with
  | exc c =>
    rw [e] at w
    exact .inl (h H0 ext reg en σ H rs _ (by rw [e]; exact w))
  | stuck => rw [e] at w; exact w.elim
  | ok x =>
    rw [e] at w
    simp only [R.bind_ok] at w
    cases x with
    | list ds =>
      refine .inl (h H0 ext reg en σ H rs _ ?_)
      rw [e]
      intro v H2 e2 hv
      obtain ⟨p, xs, rfl, hp, hr⟩ := hv.lst fun a z => .inl z
      exact ⟨p, xs, rfl, SqL.of hp, fun q hq => w _ _ (e2.trans (Xt.new hq)) (Rp.newL (fun a z => (rs.ex e2).there z) hq hr.reverse)⟩
    | str z =>
      refine .inr (h H0 ext reg en σ H rs _ ?_)
      rw [e]
      intro v H2 e2 hv
      unfold revD at w
      dsimp only at w
      split at w
      · rename_i hl
        exact ⟨z, hv.str, sz_of hl, w _ H2 e2 (.str _)⟩
      · exact w.elim
    | _ => exact w.elim
end

/-! ### constants of the module -/
structure KC (K : PySem.W.Frag) (mg : Str → Option Value) (x : Str) (v : V) : Prop where
  at_ : ∃ u, mg x = some u ∧ RelV v u
theorem KC.pe {X : Cx} {x : Str} {v : V} {pos : Pos} (k : KC X.K X.mg x v) (hg : Gl X x) (hd : (x == ("__debug__" : Str)) = false := by decide) : PE X (.Name x pos) (tC v) :=
  let ⟨_, h1, h2⟩ := k.at_; pe_glob hg h1 h2 hd

/-- a dict of the module whose keys are True and False -/
def leafB : List DictEntry → Bool
  | [] => true
  | e :: r => (match e.key with
    | .bool b => e.hash == hashInt (if b = true then 1 else 0)
    | _ => false) && leafB r
structure KBd (K : PySem.W.Frag) (p : Addr) (f : Bool → V) : Prop where
  at_ : ∃ es n, K.lookup p = some ⟨.type "dict", none, .dict es n, #[]⟩ ∧ leafB es.toList = true ∧ ∀ b, ∃ u, findBy Leaf.isOf es (.num (if b = true then 1 else 0)) = some u ∧ RelV (f b) u
theorem leafB_all : ∀ {es : List DictEntry}, leafB es = true → ∀ e ∈ es, ∃ k : Leaf, Leaf.isOf k e.key = true ∧ ∀ w, e.hash = k.key.hash w
  | e :: r, h, e', hm => by
    unfold leafB at h
    rw [Bool.and_eq_true] at h
    rcases List.mem_cons.mp hm with rfl | hm
    · have h1 := h.1
      split at h1
      · rename_i b hb
        exact ⟨.num (if b = true then 1 else 0), by rw [hb]; exact decide_eq_true rfl, fun w => beq_iff_eq.mp h1⟩
      · cases h1
    · exact leafB_all h.2 e' hm
def rIxB (K : PySem.W.Frag) : R2 := fun x y H Q => ∃ p b f, x = .ref p ∧ y = .bl b ∧ KBd K p f ∧ Q (f b) H
theorem ix_kb {X : Cx} : IxR X (rIxB X.K) := by
  intro value slice pins s σ H x y v u Q I rx ry h hs
  obtain ⟨p, b, f, rfl, rfl, ⟨es, n, hl, hk, hf⟩, q⟩ := h
  obtain rfl : v = Value.ref p := rx
  obtain rfl : u = Value.bool b := ry
  obtain ⟨u0, hu, ru⟩ := hf b
  have hm : s.heap.MapOf (leafKind X.prog X.w) p (fun k => findBy Leaf.isOf es k) :=
    ⟨_, es, n, I.kIn _ _ hl, ⟨rfl, rfl, rfl⟩, rfl, fun e he => by
      obtain ⟨k, h1, h2⟩ := leafB_all hk e (Array.mem_toList_iff.mpr he)
      exact ⟨k, h1, h2 X.w⟩, fun _ => rfl⟩
  exact PyProof.Rows.tail_any hm.typeIs slot_dict_getitem.lookup (wpAny_getItem_of (knd := leafKind X.prog X.w) (k := .num (if b = true then 1 else 0)) (by exact decide_eq_true rfl) hm hu ⟨f b, H, I.tok _, ru, q⟩) hs
/-- .. and what it holds stands for -/
structure KBm (K : PySem.W.Frag) (mg : Str → Option Value) (x : Str) (dt df : PD) : Prop where
  at_ : ∃ p f, mg x = some (.ref p) ∧ KBd K p f ∧ (∀ H, Rp K H (f true) dt) ∧ ∀ H, Rp K H (f false) df
def kvB (dt df : PD) : PD → R PD
  | .bool true => .ok dt
  | .bool false => .ok df
  | _ => .stuck
def tKB (K : PySem.W.Frag) (dt df : PD) (tb : TE) : TE := fun σ H Q => tb σ H fun y H2 => ∃ b, y = .bl b ∧ ∀ v, (∀ H, Rp K H v (if b = true then dt else df)) → Q v H2
theorem KBm.pe {X : Cx} {x : Str} {dt df : PD} {b : Expr} {tb : TE} {pos pos2 : Pos} (k : KBm X.K X.mg x dt df) (hg : Gl X x) (hb : PE X b tb) (hs : PlainIx b) (hd : (x == ("__debug__" : Str)) = false := by decide) :
    PE X (.Subscript (.Name x pos) b pos2) (tKB X.K dt df tb) := by
  obtain ⟨p, f, h1, h2, h3, h4⟩ := k.at_
  refine ⟨fun pins s σ H Q I q => PyProof.Rows.Subscript_ (ld_glob I hg h1 (thn (hb.run pins s σ H _ I q) fun u s2 ⟨y, H2, I2, ry, c, ey, q2⟩ => ?_) hd)⟩
  subst ey
  refine ix_kb _ _ pins s2 σ H2 (.ref p) (.bl c) (.ref p) u Q I2 rfl ry ⟨p, c, f, rfl, rfl, h2, q2 _ ?_⟩ (hs _ _)
  cases c with
  | true => exact h3
  | false => exact h4
section
variable {C : Cn} {tb : TE} {fb : En → R PD}
theorem ed_kb {dt df : PD} (h : EdL C tb fb) : EdS C (tKB C.K dt df tb) (d1 (kvB dt df) fb) := fun H0 ext reg en σ H rs Q w =>
  h.seq rs (W := WrS C (own ext reg) H Q) w (fun _ q => q) (fun q => q) fun x v H2 e2 r2 h2 w2 => by
    cases x with
    | bool b => 
      refine ⟨b, h2.bl, fun v hv => ?_⟩
      cases b with
      | true => exact w2 v H2 e2 (hv _)
      | false => exact w2 v H2 e2 (hv _)
    | _ => exact w2.elim
end
end Dn

namespace Dn
open PySem L2
variable [Tabl]

/-! ### the script -/
def dLenR (i : Nat) : En → R PD := fun en => match en[i]? with
  | some (.rl ds) => .ok (.int ds.length)
  | _ => .stuck
section
variable {C : Cn}
theorem ed_lenR (i : Nat) : EdS C (tCB (rLenA C.K) (tCons (tVar i) tNil)) (dLenR i) := fun H0 ext reg en σ H rs Q w => by
  unfold dLenR at w
  cases h : en[i]? with
  | none => rw [h] at w; exact w.elim
  | some sv =>
    rw [h] at w
    obtain ⟨v, h1, h2⟩ := rs.sl i sv h
    cases sv with
    | rl ds =>
      obtain ⟨p, xs, rfl, h3, h4⟩ := h2
      exact ⟨_, h1, .ref p, _, rfl, .inl ⟨xs, hid_ex.sql h3, rfl⟩, by rw [h4.length]; exact w _ H (Xt.refl H) (.int _)⟩
    | _ => exact w.elim
end
def cellF (ns : List Int) (k : Int) : Int := if ns = [] then k * 7919 else ns.getD (k % (ns.length : Int)).toNat 0 + k / (ns.length : Int) * 104729
def spCell (K : PySem.W.Frag) : Sp := fun vs H Q _ => ∃ (a : Addr) (ns : List Int) (k : Int), vs = [.ref a, .int k] ∧ SqL K H a (ns.map V.int) ∧ ns.length ≤ 63 ∧ 0 ≤ k ∧ k < 2 ^ 32 ∧ ∀ H', Xt H H' → Q (.int (cellF ns k)) H'
def dCell (i : Nat) (fk : En → R PD) : En → R PD := fun en => match en[i]? with
  | some (.rl ds) => (fk en).bind fun k => match asInts ds, k with
    | some ns, .int k => if ns.length ≤ 63 ∧ 0 ≤ k ∧ k < 2 ^ 32 then .ok (.int (cellF ns k)) else .stuck
    | _, _ => .stuck
  | _ => .stuck
section
variable {C : Cn}
theorem ed_cell (i : Nat) {tk : TE} {fk : En → R PD} (hk : EdL C tk fk) : EdS C (tCall (spCell C.K) [] C.E (tCons (tVar i) (tCons tk tNil))) (dCell i fk) := fun H0 ext reg en σ H rs Q w => by
  unfold dCell at w
  cases h : en[i]? with
  | none => rw [h] at w; exact w.elim
  | some sv =>
    rw [h] at w
    obtain ⟨v, h1, h2⟩ := rs.sl i sv h
    cases sv with
    | rl ds =>
      obtain ⟨p, xs, rfl, h3, h4⟩ := h2
      refine ⟨_, h1, hk.seq rs (W := WrS C (own ext reg) H Q) w (fun _ q => q) (fun q => q) fun x v H2 e2 r2 hv w2 => ?_⟩
      split at w2
      · rename_i ns k hn
        split at w2
        · rename_i hl
          obtain rfl := hv.int
          rw [h4.asInts hn] at h3
          exact ⟨p, ns, k, rfl, hid_ex.sql (e2.toEx.hid.sql h3), hl.1, hl.2.1, hl.2.2, fun H' e' => w2 _ H' (e2.trans e') (.int _)⟩
        · exact w2.elim
      · exact w2.elim
    | _ => exact w.elim
end
section
variable {P : Program} {w : World} {K : PySem.W.Frag} {mg : Str → Option Value} {base : Heap}
/-- how _law_cell reads -/
def tCellB (K : PySem.W.Frag) : TS :=
  tSeq (tIfS (tTest (tOp (rEqA K) (tVar 0) (tLst tNil))) (tRet (tOp rMulD (tVar 1) (tC (.int 7919)))) tNext)
    (tRet (tOp rAddD (tOp (rIx K) (tVar 0) (tOp (rI (fun _ j => 0 < j) fun i j => .int (i % j)) (tVar 1) (tCB (rLenA K) (tCons (tVar 0) tNil))))
      (tOp rMulD (tOp (rI CDivW fun i j => .int (i / j)) (tVar 1) (tCB (rLenA K) (tCons (tVar 0) tNil))) (tC (.int 104729)))))
theorem dp_ints {K : PySem.W.Frag} {H : Hp} : ∀ (ns : List Int), DpAll K H (ns.map V.int) (ns.map PyData.int)
  | [] => .nil
  | n :: r => .cons (.int n) (dp_ints r)
theorem shaped_ints (ns : List Int) : SeqAt.shaped (.list (ns.map PyData.int)) = true := by
  have h1 : ∀ l : List Int, PyData.canLayAll0 (l.map PyData.int) = true := fun l => by
    induction l with
    | nil => rfl
    | cons a r ih => show (PyData.canLay0 (.int a) && PyData.canLayAll0 (r.map PyData.int)) = true; rw [ih]; rfl
  have h2 : ∀ l : List Int, PyData.depthAll (l.map PyData.int) = 0 := fun l => by
    induction l with
    | nil => rfl
    | cons a r ih => show max (PyData.depth (.int a)) (PyData.depthAll (r.map PyData.int)) = 0; rw [ih]; rfl
  unfold SeqAt.shaped
  rw [Bool.and_eq_true]
  refine ⟨?_, decide_eq_true ?_⟩
  · show PyData.canLayAll0 _ = true
    exact h1 ns
  · show PyData.depthAll _ + 1 ≤ 64
    rw [h2]
    decide
theorem cell_reads {H : Hp} {Q : VK} {E : XK} {vs : List V} {nx : L2.St → Hp → Prop} (h : spCell K vs H Q E) : tCellB K { nx := nx, rt := Q } (L2.start ["script", "k"] vs) H := by
  obtain ⟨a, ns, k, rfl, hs, hl, h0, h1, q⟩ := h
  refine ⟨.ref a, rfl, Nat.zero_le _, fun p hp => ?_⟩
  have e1 : Xt H (upd H p (.lst [])) := Xt.new hp
  refine .inr ⟨.list (ns.map PyData.int), .list [], .lst (e1.toEx.sql hs) (dp_ints ns), .lst (SqL.of upd_same) .nil, shaped_ints ns, by decide, _, rfl, ?_⟩
  cases ns with
  | nil =>
    have e2 : PyData.eqv (.list (([] : List Int).map PyData.int)) (.list []) = true := rfl
    rw [e2, if_pos rfl]
    exact ⟨_, rfl, .inl ⟨k, 7919, rfl, rfl, .inr ⟨by decide, by decide⟩, q _ e1⟩⟩
  | cons n r =>
    have e2 : PyData.eqv (.list ((n :: r).map PyData.int)) (.list []) = false := rfl
    rw [e2, if_neg (by decide)]
    have hs1 := e1.toEx.sql hs
    have hpos : (0 : Int) < ((n :: r).map V.int).length := by
      rw [List.length_map, List.length_cons]
      omega
    have hlen : ((n :: r).map V.int).length = (n :: r).length := List.length_map ..
    have hm := Int.emod_nonneg k (show ((n :: r).length : Int) ≠ 0 by rw [List.length_cons]; omega)
    have hm2 := Int.emod_lt_of_pos k (show (0 : Int) < ((n :: r).length : Int) by rw [List.length_cons]; omega)
    have hi : (k % ((n :: r).length : Int)).toNat < (n :: r).length := by omega
    refine ⟨.ref a, rfl, _, rfl, _, rfl, .ref a, _, rfl, .inl ⟨_, hs1, rfl⟩, k, _, rfl, rfl, hpos, .inl ⟨a, _, _, .int ((n :: r).getD (k % ((n :: r).length : Int)).toNat 0), rfl, rfl, hs1, ?_, _, rfl, _, rfl, .ref a, _, rfl, .inl ⟨_, hs1, rfl⟩, k, _, rfl, rfl, ⟨hpos, ?_⟩, ?_⟩⟩
    · rw [hlen]
      unfold atI ixN
      rw [List.length_map, if_pos hm, if_pos hm2]
      show ((n :: r).map V.int)[_]? = _
      rw [List.getElem?_map, List.getElem?_eq_getElem hi, List.getD_eq_getElem?_getD, List.getElem?_eq_getElem hi]
      rfl
    · rw [hlen, Int.natAbs_natCast]
      have : (n :: r).length.log2 ≤ 63 := Nat.le_trans (Nat.log2_le_self _) hl
      omega
    · refine .inl ⟨_, 104729, rfl, rfl, .inr ⟨by decide, by decide⟩, .inl ⟨_, _, rfl, rfl, ?_⟩⟩
      have := q _ e1
      unfold cellF at this
      rw [if_neg (List.cons_ne_nil _ _)] at this
      rw [hlen]
      exact this
/-! ### the law -/
def runL (n : Nat) (f : En → R Fl) (ns : List Int) : R PD := (f (SV.rl (ns.map PyData.int) :: List.replicate (n - 1) SV.no)).bind fun fl => match fl with
  | .nx _ => .ok .none
  | .rt d => .ok d
  | _ => .stuck
def spLaw (K : PySem.W.Frag) : Sp := fun vs H Q _ => ∃ (a : Addr) (ns : List Int), vs = [.ref a] ∧ SqL K H a (ns.map V.int) ∧ ns.length ≤ 63 ∧ LamX.Tabs Tabl.T H ∧ ∀ H', Q (.bl true) H'
theorem rpa_ints {K : PySem.W.Frag} {H : Hp} : ∀ (ns : List Int), RpA K H (ns.map V.int) (ns.map PyData.int)
  | [] => .nil
  | n :: r => .cons (.int n) (rpa_ints r)
theorem hid_none {H : Hp} : hid H (own (fun _ => False) fun _ _ => False) = H := by
  funext a
  exact hid_at fun z => by
    rcases z with z | ⟨_, z⟩
    · exact z
    · exact z
theorem RS.startL {K : PySem.W.Frag} {H : Hp} {a : Addr} {ns : List Int} {n : Nat} {N : List Str} (tb : LamX.Tabs Tabl.T H) (hn : N.length = n + 1) (hs : SqL K H a (ns.map V.int)) : RS K H (fun _ => False) (fun _ _ => False) (SV.rl (ns.map PyData.int) :: List.replicate n SV.no) (L2.start N [.ref a]) H := by
  refine ⟨Ex.refl H, tb, fun _ h => h.elim, fun _ _ h => h.elim, fun _ _ _ h => h.elim, fun _ _ h => h.elim, ?_, fun i sv e => ?_⟩
  · unfold L2.start
    simp [hn]
  · rw [hid_none]
    unfold L2.start
    cases i with
    | zero =>
      cases e
      exact ⟨_, rfl, a, _, rfl, hs, rpa_ints ns⟩
    | succ i =>
      rw [List.getElem?_cons_succ, List.getElem?_replicate] at e
      split at e
      · rename_i hl
        cases e
        refine ⟨none, ?_, trivial⟩
        show (List.replicate (N.length - 1) none)[i]? = _
        rw [List.getElem?_replicate, if_pos (by omega)]
      · cases e
theorem law_ok {st : Stmt} {f : Addr} {fd : FuncData} {N : List Str} {k : Nat} {cl : Str → Addr} {body : En → R Fl} (F : Fun K "law" "law" st f fd) (S : FnScope N ["script"] (defScope st))
    (hb : ∀ (cdv : Value) (A : Around) (outer : List Env) (s : Shared) (H : Hp) (E : XK), Room k (A.deeper (PyProof.Rows.envOfC "law" (defScope st) s.heap.objs.size f cdv)) →
      ∃ t, PSs (cxOf (L2N.CX P w) P w K mg base N "law" (defScope st) f cdv A outer s H E) (defBody st) t ∧ Es ⟨K, E, cl⟩ t body)
    (hN : 0 < N.length) (hd : ∀ ns : List Int, ns.length ≤ 63 → runL N.length body ns = .ok (.bool true)) :
    FnOk P w K mg base (L2N.CX P w) (k + 1) f fd ["script"] (spLaw K) := by
  refine okN F S (fun vs H Q E ⟨_, _, h, _⟩ => by rw [h]; rfl) fun cdv A outer s H vs Q E hr h => ?_
  obtain ⟨t, ht, hs⟩ := hb cdv A outer s H E hr
  refine ⟨t, ht, ?_⟩
  obtain ⟨a, ns, rfl, hq, hl, htb, q⟩ := h
  have hN2 : N.length = (N.length - 1) + 1 := by omega
  refine hs H (fun _ => False) (fun _ _ => False) _ _ H (RS.startL htb hN2 hq) _ ?_
  have hd := hd ns hl
  unfold runL at hd
  revert hd
  generalize body (SV.rl (ns.map PyData.int) :: List.replicate (N.length - 1) SV.no) = r
  intro hd
  cases r with
  | ok fl =>
    cases fl with
    | nx e => cases hd
    | rt d =>
      cases hd
      intro v H2 e2 _ h2
      cases h2
      exact q H2
    | bk e => cases hd
    | ct e => cases hd
    | rm d e => cases hd
    | rn d e => cases hd
    | xm d e => cases hd
    | pr i d e => cases hd
  | exc c => cases hd
  | stuck => cases hd
theorem cx_false {P : Program} {w : World} {H : Hp} {s s' : Shared} {e : Value} (h : L2N.CX P w [] H s (fun _ _ _ => False) e s') : False := by
  obtain ⟨_, _, _, _, _, _, _, _, _, _, _, _, z⟩ := h
  exact z
end
end Dn

/-! The rules with the written part named: a comprehension's block changes the context, not it. -/
namespace Dn
open PySem L2
variable [Tabl]
section
variable {X : Cx} (K : PySem.W.Frag) (h : X.K = K)
theorem kx_ix (h : X.K = K) (hu : X.A.units + 64 < cLine) : IxR X (rIxA K) := by subst h; exact ix_A hu
theorem kx_eq (h : X.K = K) (hu : X.A.units + 64 < cLine) : OpR X (compareOp .Eq) (rEqA K) := by subst h; exact op_eqA hu
theorem kx_ne (h : X.K = K) (hu : X.A.units + 64 < cLine) : OpR X (compareOp .NotEq) (rNeA K) := by subst h; exact op_neA hu
theorem kx_sl (h : X.K = K) : SlR X (rSlD K) := by subst h; exact sl_D
theorem kx_len (h : X.K = K) : CallR X (.builtin "len") (rLenA K) := by subst h; exact c_len
theorem kx_sum (h : X.K = K) (hc : X.calm = true) : CallR X (.builtin "sum") (rSum K) := by subst h; exact cr_sum hc
theorem kx_min (h : X.K = K) (hc : X.calm = true) : CallR X (.builtin "min") (rMinA K) := by subst h; exact c_min hc
theorem kx_any (h : X.K = K) (hc : X.calm = true) : CallR X (.builtin "any") (rAny K) := by subst h; exact cr_any hc
theorem kx_all (h : X.K = K) (hc : X.calm = true) : CallR X (.builtin "all") (rAll K) := by subst h; exact cr_all hc
theorem kx_isi (h : X.K = K) : CallR X (.builtin "isinstance") (rIsi K) := by subst h; exact call_isi
theorem kpi_list {tg l : Expr} {tl : TE} (h : X.K = K) (hl : PE X l tl) : PI X tg l (iList K tl) := by subst h; exact pi_list hl
theorem kpi_tup {tg l : Expr} {tl : TE} (h : X.K = K) (hl : PE X l tl) : PI X tg l (iTup K tl) := by subst h; exact pi_tup hl
theorem kpi_zip {e e2 : Expr} {ta : TA} {p pos tpos : Pos} {elts : List Expr} {kk : Nat} (h : X.K = K) (hg : Gl X "zip") (hm : X.mg "zip" = none) (ha : PA X [e, e2] ta)
    (hs : starEach [e, e2] X.env = (false, eval e X.env) :: starEach [e2] X.env := by rfl) (hs2 : (backTo pos (starEach [e2] X.env)).any (·.1) = false := by rfl) :
    PI X (.Tuple elts kk tpos) (.Call (.Name "zip" p) [e, e2] [] pos) (iZip K ta) := by subst h; exact pi_zip hg hm ha hs hs2
theorem kpi_enum {e : Expr} {ta : TA} {p pos tpos : Pos} {elts : List Expr} {kk : Nat} (h : X.K = K) (hg : Gl X "enumerate") (hm : X.mg "enumerate" = none) (ha : PA X [e] ta) (hs : starEach [e] X.env = [(false, eval e X.env)] := by rfl) :
    PI X (.Tuple elts kk tpos) (.Call (.Name "enumerate" p) [e] [] pos) (iEnum K ta) := by subst h; exact pi_enum hg hm ha hs
theorem kpg_tup {es : List Expr} {k : Nat} {pos : Pos} {t : TGs} {n : Nat} (h : X.K = K) (hc : X.calm = true) (hs : PGs X es t)
    (hn : (assignEach es X.env).length = n := by rfl) (hst : (assignEach es X.env).findIdx? (·.1) = none := by rfl) : PG X (.Tuple es k pos) (gTup K n t) := by subst h; exact pg_tup hc hs hn hst
theorem kpe_rev {e : Expr} {te : TE} {k : Nat} {p1 p2 p3 pos : Pos} (h : X.K = K) (he : PE X e te) : PE X (.Subscript e (.Slice none none (some (.UnaryOp .USub (.Constant (.int 1) k p1) p2)) p3) pos) (tRev K te) := by subst h; exact pe_rev he
theorem kpe_kb {mg : Str → Option Value} {x : Str} {dt df : PD} {b : Expr} {tb : TE} {pos pos2 : Pos} (k : KBm K mg x dt df) (h : X.K = K) (hm : X.mg = mg) (hg : Gl X x) (hb : PE X b tb) (hs : PlainIx b) (hd : (x == ("__debug__" : Str)) = false := by decide) :
    PE X (.Subscript (.Name x pos) b pos2) (tKB K dt df tb) := by subst h; subst hm; exact k.pe hg hb hs hd
theorem kpe_c {mg : Str → Option Value} {x : Str} {v : V} {pos : Pos} (k : KC K mg x v) (h : X.mg = mg) (hg : Gl X x) (hd : (x == ("__debug__" : Str)) = false := by decide) : PE X (.Name x pos) (tC v) := by
  subst h
  obtain ⟨_, h1, h2⟩ := k.at_
  exact pe_glob hg h1 h2 hd
end
end Dn

/-! Dicts: locked while they are walked; items; new ones. -/
namespace Dn
open PySem L2
variable [Tabl]

/-! ### locks -/
theorem hid_upd_at {H : Hp} {Z : AS} {p : Addr} {o : HO} (h : ¬ Z p) : hid (upd H p o) Z = upd (hid H Z) p o := by
  funext a
  by_cases ha : a = p
  · rw [ha, hid_at h, upd_same, upd_same]
  · rw [upd_ne ha]
    by_cases z : Z a
    · rw [hid_no z, hid_no z]
    · rw [hid_at z, hid_at z, upd_ne ha]
theorem Rd.ne {H H' : Hp} {a p : Addr} {u : HO} (h : Rd H a u) (n : a ≠ p) (e : ∀ b, b ≠ p → H' b = H b) : Rd H' a u := by
  rcases h with h | ⟨o, h⟩
  · exact .inl (by rw [e a n]; exact h)
  · exact .inr ⟨o, by rw [e a n]; exact h⟩
section
variable {K : PySem.W.Frag} {H : Hp} {p : Addr} {o : Obj} {kvs : List (Key × V)}
theorem lk_le (h : H p = some (.dK kvs)) : LeR K H (upd H p (.frz o (.dK kvs))) := by
  have e : ∀ b, b ≠ p → upd H p (.frz o (.dK kvs)) b = H b := fun b n => upd_ne n
  refine ⟨fun a xs q => ?_, fun a xs q => ?_, fun a ks q => ?_⟩
  · rw [e a fun z => by rw [z, h] at q; cases q]
    exact q
  · rcases q with q | q
    · refine .inl (Rd.ne q (fun z => ?_) e)
      rw [z] at q
      rcases q with q | ⟨_, q⟩ <;> rw [h] at q <;> cases q
    · exact .inr q
  · by_cases z : a = p
    · rw [z] at q ⊢
      rcases q with q | ⟨_, q⟩
      · rw [h] at q
        cases q
        exact .inr ⟨o, upd_same⟩
      · rw [h] at q
        cases q
    · exact Rd.ne q z e
theorem lk_sql (h : H p = some (.dK kvs)) {a : Addr} {xs : List V} (q : SqL K H a xs) : SqL K (upd H p (.frz o (.dK kvs))) a xs := by
  rcases q with q | q
  · refine .inl (Rd.ne q (fun z => ?_) fun b n => upd_ne n)
    rw [z] at q
    rcases q with q | ⟨_, q⟩ <;> rw [h] at q <;> cases q
  · exact .inr q
theorem unlk_le (h : H p = some (.frz o (.dK kvs))) : LeR K H (upd H p (.dK kvs)) := by
  have e : ∀ b, b ≠ p → upd H p (.dK kvs) b = H b := fun b n => upd_ne n
  refine ⟨fun a xs q => ?_, fun a xs q => ?_, fun a ks q => ?_⟩
  · rw [e a fun z => by rw [z, h] at q; cases q]
    exact q
  · rcases q with q | q
    · refine .inl (Rd.ne q (fun z => ?_) e)
      rw [z] at q
      rcases q with q | ⟨_, q⟩ <;> rw [h] at q <;> cases q
    · exact .inr q
  · by_cases z : a = p
    · rw [z] at q ⊢
      rcases q with q | ⟨_, q⟩
      · rw [h] at q
        cases q
      · rw [h] at q
        cases q
        exact .inl upd_same
    · exact Rd.ne q z e
theorem unlk_sql (h : H p = some (.frz o (.dK kvs))) {a : Addr} {xs : List V} (q : SqL K H a xs) : SqL K (upd H p (.dK kvs)) a xs := by
  rcases q with q | q
  · refine .inl (Rd.ne q (fun z => ?_) fun b n => upd_ne n)
    rw [z] at q
    rcases q with q | ⟨_, q⟩ <;> rw [h] at q <;> cases q
  · exact .inr q
end
theorem SlotOk.monoL {K : PySem.W.Frag} {Hs Hs' H H' : Hp} {v : Option V} {rg : AS} (e : LeR K Hs Hs') (el : ∀ p xs, SqL K Hs p xs → SqL K Hs' p xs) (k : ∀ p o, rg p → H p = some o → isTb o = false → H' p = some o) (ei : ∀ p c dx vs, Hs p = some (.ins c dx vs) → Hs' p = some (.ins c dx vs)) (eb : ∀ p o xs, Hs p = some (.frz o (BdO p xs)) → Hs' p = some (.frz o (BdO p xs))) :
    ∀ {sv : SV}, (∀ es p o kvs, sv = .fz es → v = some (.ref p) → Hs p = some (.frz o (.dK kvs)) → Hs' p = some (.frz o (.dK kvs))) → SlotOk K Hs H v rg sv → SlotOk K Hs' H' v rg sv
  | .no, _, _ => trivial
  | .sh d, _, ⟨x, h1, h2⟩ => ⟨x, h1, h2.mono e⟩
  | .ol ds, _, ⟨p, xs, h1, h2, h3, h4⟩ => ⟨p, xs, h1, h2, k _ _ h2 h3 rfl, h4.mono e⟩
  | .od es, _, ⟨p, xs, h1, h2, h3, h4⟩ => ⟨p, xs, h1, h2, k _ _ h2 h3 rfl, h4.mono e⟩
  | .rl ds, _, ⟨p, xs, h1, h2, h3⟩ => ⟨p, xs, h1, el _ _ h2, h3.mono e⟩
  | .fz ds, f, ⟨p, o, xs, h1, h2, h3⟩ => ⟨p, o, xs, h1, f ds p o xs rfl h1 h2, h3.mono e⟩
  | .xr _, _, h => h
  | .ob _ _ _ _, _, ⟨p, dx, vs, L, h1, h2, h3, h4, h5, h6⟩ => ⟨p, dx, vs, L, h1, h2, h3, k _ _ h3 h4 rfl, h5, h6.mono e k⟩
  | .vw _ _ _, _, ⟨p, dx, vs, h1, h2, h3, h4⟩ => ⟨p, dx, vs, h1, ei _ _ _ _ h2, h3, h4.mono e⟩
  | .bd _, _, ⟨p, xs, h1, h2, h3, h4⟩ => ⟨p, xs, h1, h2, k _ _ h2 h3 rfl, h4.mono e⟩
  | .bz _, _, ⟨p, o, xs, h1, h2, h3⟩ => ⟨p, o, xs, h1, eb _ _ _ h2, h3.mono e⟩
section
variable {K : PySem.W.Frag} {H0 H : Hp} {ext : AS} {reg : Nat → AS} {en : En} {σ : L2.St}
/-- the dict of a slot stands open, or is locked by a caller -/
theorem RS.dict (r : RS K H0 ext reg en σ H) {i : Nat} {es : List (PD × PD)} (h : en[i]? = some (.sh (.dict es))) :
    ∃ p kvs, σ[i]? = some (some (.ref p)) ∧ ¬ own ext reg p ∧ RpK K (hid H (own ext reg)) kvs es ∧ (H p = some (.dK kvs) ∨ ∃ o, H p = some (.frz o (.dK kvs))) := by
  obtain ⟨v, h1, x, rfl, h2⟩ := r.sl i _ h
  cases h2 with
  | dct h3 h4 =>
    rename_i p kvs
    rcases h3 with h3 | ⟨o, h3⟩
    · obtain ⟨z, q⟩ := hid_some h3
      exact ⟨p, kvs, h1, z, h4, .inl q⟩
    · obtain ⟨z, q⟩ := hid_some h3
      exact ⟨p, kvs, h1, z, h4, .inr ⟨o, q⟩⟩
theorem RS.fzset (r : RS K H0 ext reg en σ H) {i : Nat} {es : List (PD × PD)} {p : Addr} {o : Obj} {kvs : List (Key × V)} (h : en[i]? = some (.sh (.dict es))) (hs : σ[i]? = some (some (.ref p))) (hz : ¬ own ext reg p) (hr : RpK K (hid H (own ext reg)) kvs es) (hp : H p = some (.frz o (.dK kvs))) :
    RS K H0 ext reg (en.set i (.fz es)) σ H :=
  ⟨r.le, r.tb, r.exd, r.rg, r.dj, fun j a q => by
    obtain ⟨sv, h1, h2⟩ := r.ro j a q
    have hj : i ≠ j := fun e => by
      subst e
      rw [h] at h1
      cases h1
      cases h2
    exact ⟨sv, by rw [List.getElem?_set_ne hj]; exact h1, h2⟩, by simp [r.len], fun j sv e => by
    by_cases hj : i = j
    · subst hj
      rw [List.getElem?_set_self (List.getElem?_eq_some_iff.mp h).1] at e
      cases e
      exact ⟨_, hs, p, o, kvs, rfl, by rw [hid_at hz]; exact hp, hr⟩
    · rw [List.getElem?_set_ne hj] at e
      exact r.sl j sv e⟩
theorem RS.lock (r : RS K H0 ext reg en σ H) {i : Nat} {es : List (PD × PD)} {p : Addr} {kvs : List (Key × V)} (h : en[i]? = some (.sh (.dict es))) (hs : σ[i]? = some (some (.ref p))) (hz : ¬ own ext reg p) (hr : RpK K (hid H (own ext reg)) kvs es) (hp : H p = some (.dK kvs)) (o : Obj) :
    RS K (upd (hid H fun a => ∃ i, reg i a) p (.frz o (.dK kvs))) ext reg (en.set i (.fz es)) σ (upd H p (.frz o (.dK kvs))) := by
  have hs0 : hid H (own ext reg) p = some (.dK kvs) := by rw [hid_at hz]; exact hp
  have same : hid (upd H p (.frz o (.dK kvs))) (own ext reg) = upd (hid H (own ext reg)) p (.frz o (.dK kvs)) := hid_upd_at hz
  have r2 : RS K (upd (hid H fun a => ∃ i, reg i a) p (.frz o (.dK kvs))) ext reg en σ (upd H p (.frz o (.dK kvs))) := by
    have q := r.lift
    refine ⟨⟨fun a u ha n => ?_⟩, tabs_wr r.tb hp rfl fun a ha => upd_ne ha, fun a ha => ?_, fun j a ha => ?_, r.dj, r.ro, r.len, fun j sv e => ?_⟩
    · by_cases z : a = p
      · rw [z, upd_same] at ha ⊢
        exact ha
      · rw [upd_ne z] at ha ⊢
        exact q.le.k a u ha n
    · obtain ⟨u, hu, t⟩ := q.exd a ha
      by_cases z : a = p
      · exact ⟨_, by rw [z, upd_same], rfl⟩
      · exact ⟨u, by rw [upd_ne z]; exact hu, t⟩
    · have z : a ≠ p := fun z => hz (.inr ⟨j, by rw [← z]; exact ha⟩)
      obtain ⟨q1, u, q2, t⟩ := q.rg j a ha
      exact ⟨fun o e => q1 o (by rw [upd_ne z] at e; exact e), u, by rw [upd_ne z]; exact q2, t⟩
    · obtain ⟨v, h1, h2⟩ := r.sl j sv e
      rw [same]
      refine ⟨v, h1, h2.monoL (lk_le hs0) (fun _ _ q => lk_sql hs0 q) (fun a u ha q _ => ?_) (fun a c dx vs q => by rw [upd_ne fun z => by rw [z, hs0] at q; cases q]; exact q) (fun a o xs q => by rw [upd_ne fun z => by unfold BdO at q; rw [z, hs0] at q; cases q]; exact q) fun _ a o' ks _ _ q => ?_⟩
      · rw [upd_ne fun z => hz (.inr ⟨j, by rw [← z]; exact ha⟩)]
        exact q
      · rw [upd_ne fun z => by rw [z, hs0] at q; cases q]
        exact q
  exact r2.fzset h hs hz (by rw [same]; exact hr.mono (lk_le hs0)) upd_same
end
def tLkE (t : TE) : TE := tOrE (tLockE t) t
theorem pe_lk {X : Cx} {e : Expr} {t : TE} (h : PE X e t) : PE X e (tLkE t) := pe_orE (pe_lock h) h
def dLk {β : Type} (i : Nat) (f : En → R β) : En → R β := fun en => match en[i]? with
  | some (.sh (.dict es)) => (f (en.set i (.fz es))).noexc
  | some (.fz _) => (f en).noexc
  | _ => .stuck
section
variable {C : Cn} {te : TE}
theorem xt_unlock {H H2 : Hp} {p : Addr} {o : Obj} {kvs : List (Key × V)} (hp : H p = some (.dK kvs)) (e : Xt (upd H p (.frz o (.dK kvs))) H2) : H2 p = some (.frz o (.dK kvs)) ∧ Xt H (upd H2 p (.dK kvs)) := by
  have h2 : H2 p = some (.frz o (.dK kvs)) := e.k _ _ upd_same rfl
  refine ⟨h2, ⟨⟨fun a u ha n => ?_⟩, fun t => tabs_wr (e.t (tabs_wr t hp rfl fun a ha => upd_ne ha)) h2 rfl fun a ha => upd_ne ha⟩⟩
  · by_cases z : a = p
    · rw [z, upd_same, ← hp, ← z]
      exact ha
    · rw [upd_ne z]
      exact e.k a u (by rw [upd_ne z]; exact ha) n
theorem WrF.nox {Z : AS} {H : Hp} {Q : VK} {r : R (List PD)} (w : WrF C Z H Q r.noexc) : WrF C Z H Q r := by
  cases r with
  | ok d => exact w
  | exc c => exact w.elim
  | stuck => exact w
theorem WS.nox {H0 : Hp} {ext : AS} {D : Ends} {r : R Fl} (w : WS C H0 ext D r.noexc) : WS C H0 ext D r := by
  cases r with
  | ok d => exact w
  | exc c => exact w.elim
  | stuck => exact w
theorem ef_lk {f : En → R (List PD)} (i : Nat) (h : EdF C te f) : EdF C (tLkE te) (dLk i f) := fun H0 ext reg en σ H rs Q w => by
  unfold dLk at w
  cases e : en[i]? with
  | none => rw [e] at w; exact w.elim
  | some sv =>
    rw [e] at w
    cases sv with
    | fz es => exact .inr (h H0 ext reg en σ H rs Q (WrF.nox w))
    | sh d =>
      cases d with
      | dict es =>
        obtain ⟨p, kvs, h1, hz, hr, hp⟩ := rs.dict e
        dsimp only at w
        rcases hp with hp | ⟨o, hp⟩
        · refine .inl ⟨p, .dK kvs, hp, trivial, fun o => h _ ext reg _ σ _ (rs.lock e h1 hz hr hp o) _ ?_⟩
          generalize f (en.set i (.fz es)) = x at w ⊢
          cases x with
          | ok ds =>
            intro q xs H2 e2 hq hx
            obtain ⟨a1, a2⟩ := xt_unlock hp e2
            have qp : q ≠ p := fun z => by rw [z, a1] at hq; cases hq
            have hz2 : hid (upd H2 p (.dK kvs)) (own ext reg) = upd (hid H2 (own ext reg)) p (.dK kvs) := hid_upd_at hz
            refine ⟨by rw [upd_ne fun z => qp z.symm]; exact a1, ?_⟩
            have := w q xs (upd H2 p (.dK kvs)) a2 (by rw [upd_ne qp]; exact hq) (by rw [hz2]; exact hx.mono (unlk_le (by rw [hid_at hz]; exact a1)))
            have comm : upd (upd H2 q (.lst xs)) p (.dK kvs) = upd (upd H2 p (.dK kvs)) q (.lst xs) := by
              funext a
              by_cases ha : a = p
              · rw [ha, upd_same, upd_ne fun z => qp z.symm, upd_same]
              · by_cases hb : a = q
                · rw [hb, upd_ne qp, upd_same, upd_same]
                · rw [upd_ne ha, upd_ne hb, upd_ne hb, upd_ne ha]
            rw [comm]
            exact this
          | exc c => exact w.elim
          | stuck => exact w.elim
        · exact .inr (h H0 ext reg _ σ H (rs.fzset e h1 hz hr hp) Q (WrF.nox w))
      | _ => exact w.elim
    | _ => exact w.elim
/-! ### a statement while the dict is locked -/
def isFz : SV → Bool
  | .fz _ => true
  | _ => false
/-- the slot i open again; no other is locked -/
def unFz (i : Nat) (en : En) : R En := match en[i]? with
  | some (.fz es) => if (en.set i (.sh (.dict es))).all (fun sv => !isFz sv) = true then .ok (en.set i (.sh (.dict es))) else .stuck
  | _ => .stuck
def unFl (i : Nat) : Fl → R Fl
  | .nx e => (unFz i e).bind fun e => .ok (.nx e)
  | .rt d => .ok (.rt d)
  | .bk e => (unFz i e).bind fun e => .ok (.bk e)
  | .ct e => (unFz i e).bind fun e => .ok (.ct e)
  | .rm _ _ => .stuck
  | .rn _ _ => .stuck
  | .xm _ _ => .stuck
  | .pr _ _ _ => .stuck
def sLk (i : Nat) (f : En → R Fl) : En → R Fl := fun en => match en[i]? with
  | some (.sh (.dict es)) => (f (en.set i (.fz es))).noexc.bind (unFl i)
  | _ => .stuck
def tLk (t : TS) : TS := fun D σ H => tLock t D σ H ∨ t D σ H
theorem ps_lk {X : Cx} {s : Stmt} {t : TS} (h : PS X s t) : PS X s (tLk t) := ⟨fun pins s σ H D I q => by
  rcases q with q | q
  · exact (ps_lock h).run pins s σ H D I q
  · exact h.run pins s σ H D I q⟩
section
variable {K : PySem.W.Frag} {H0 H G : Hp} {ext : AS} {reg : Nat → AS} {en en2 : En} {σ : L2.St}
/-- the slot reads as data again; the heap as it is -/
theorem RS.unfz (r : RS K H0 ext reg en σ H) {i : Nat} (h : unFz i en = .ok en2) : RS K H0 ext reg en2 σ H := by
  unfold unFz at h
  cases e : en[i]? with
  | none => rw [e] at h; cases h
  | some sv =>
    rw [e] at h
    cases sv with
    | fz es =>
      dsimp only at h
      split at h
      · cases h
        refine ⟨r.le, r.tb, r.exd, r.rg, r.dj, fun j a q => ?_, by simp [r.len], fun j sv q => ?_⟩
        · obtain ⟨sv, h1, h2⟩ := r.ro j a q
          have hj : i ≠ j := fun z => by
            subst z
            rw [e] at h1
            cases h1
            cases h2
          exact ⟨sv, by rw [List.getElem?_set_ne hj]; exact h1, h2⟩
        · by_cases hj : i = j
          · subst hj
            rw [List.getElem?_set_self (List.getElem?_eq_some_iff.mp e).1] at q
            cases q
            obtain ⟨v, h1, p, o, kvs, rfl, h2, h3⟩ := r.sl i _ e
            exact ⟨_, h1, _, rfl, .dct (.inr ⟨o, h2⟩) h3⟩
          · rw [List.getElem?_set_ne hj] at q
            exact r.sl j sv q
      · cases h
    | _ => cases h
theorem unFz_no {i : Nat} (h : unFz i en = .ok en2) : ∀ (j : Nat) (sv : SV), en2[j]? = some sv → isFz sv = false := by
  unfold unFz at h
  split at h
  · split at h
    · rename_i hl
      cases h
      intro j sv q
      have := List.all_eq_true.mp hl sv (List.mem_of_getElem? q)
      simpa using this
    · cases h
  · cases h
/-- the lock is taken off; what was own may be elder than the lock's ground -/
theorem RS.unlock {p : Addr} {o : Obj} {kvs : List (Key × V)} (r : RS K (upd G p (.frz o (.dK kvs))) ext reg en σ H) (hn : ∀ (j : Nat) (sv : SV), en[j]? = some sv → isFz sv = false) (hx : ¬ ext p) (hG : Ex H0 G) (hp : G p = some (.dK kvs)) (x : ∀ a, ext a → So H0 a) :
    H p = some (.frz o (.dK kvs)) ∧ RS K H0 ext reg en σ (upd H p (.dK kvs)) := by
  have h1 : H p = some (.frz o (.dK kvs)) := r.le.k _ _ upd_same rfl
  have hz : ¬ own ext reg p := fun z => by
    rcases z with z | ⟨j, z⟩
    · exact hx z
    · exact So.nn ⟨_, upd_same, rfl⟩ (r.rg j p z).1
  have hs0 : hid H (own ext reg) p = some (.frz o (.dK kvs)) := by rw [hid_at hz]; exact h1
  have same : hid (upd H p (.dK kvs)) (own ext reg) = upd (hid H (own ext reg)) p (.dK kvs) := hid_upd_at hz
  refine ⟨h1, ⟨fun a u ha n => ?_⟩, tabs_wr r.tb h1 rfl fun a ha => upd_ne ha, x, fun j a ha => ?_, r.dj, r.ro, r.len, fun j sv e => ?_⟩
  · by_cases z : a = p
    · rw [z, upd_same, ← hp, ← z]
      exact hG.k a u ha n
    · rw [upd_ne z]
      exact r.le.k a u (by rw [upd_ne z]; exact hG.k a u ha n) n
  · have z : a ≠ p := fun z => hz (.inr ⟨j, by rw [← z]; exact ha⟩)
    obtain ⟨q1, u, q2, t⟩ := r.rg j a ha
    exact ⟨hG.nn fun o e => q1 o (by rw [upd_ne z]; exact e), u, by rw [upd_ne z]; exact q2, t⟩
  · obtain ⟨v, h3, h4⟩ := r.sl j sv e
    rw [same]
    refine ⟨v, h3, h4.monoL (unlk_le hs0) (fun _ _ q => unlk_sql hs0 q) (fun a u ha q _ => ?_) (fun a c dx vs q => by rw [upd_ne fun z => by rw [z, hs0] at q; cases q]; exact q) (fun a o xs q => by rw [upd_ne fun z => by unfold BdO at q; rw [z, hs0] at q; cases q]; exact q) fun es a o' ks hsv _ q => ?_⟩
    · rw [upd_ne fun z => hz (.inr ⟨j, by rw [← z]; exact ha⟩)]
      exact q
    · have := hn j sv e
      rw [hsv] at this
      cases this
end
theorem es_lk {t : TS} {f : En → R Fl} (i : Nat) (h : Es C t f) : Es C (tLk t) (sLk i f) := fun H0 ext reg en σ H rs D w => by
  unfold sLk at w
  cases e : en[i]? with
  | none => rw [e] at w; exact w.elim
  | some sv =>
    rw [e] at w
    cases sv with
    | sh d =>
      cases d with
      | dict es =>
        obtain ⟨p, kvs, h1, hz, hr, hp⟩ := rs.dict e
        dsimp only at w
        rcases hp with hp | ⟨o, hp⟩
        · refine .inl ⟨p, .dK kvs, hp, trivial, fun o => h _ ext reg _ σ _ (rs.lock e h1 hz hr hp o) _ ?_⟩
          have hG := rs.lift_le
          have hGp : hid H (fun a => ∃ i, reg i a) p = some (.dK kvs) := by
            rw [hid_at fun q => hz (.inr q)]
            exact hp
          have hx : ¬ ext p := fun q => hz (.inl q)
          generalize f (en.set i (.fz es)) = x at w ⊢
          cases x with
          | ok fl =>
            simp only [R.noexc_ok, R.bind_ok] at w
            cases fl with
            | nx e2 =>
              unfold unFl at w
              dsimp only at w
              intro reg2 σ2 H2 r2
              cases eu : unFz i e2 with
              | ok e3 =>
                rw [eu] at w
                obtain ⟨a1, a2⟩ := (r2.unfz eu).unlock (unFz_no eu) hx hG hGp rs.exd
                exact ⟨a1, w _ _ _ a2⟩
              | exc c => rw [eu] at w; cases (show False by unfold unFz at eu; split at eu <;> (try split at eu) <;> cases eu)
              | stuck => rw [eu] at w; exact w.elim
            | bk e2 =>
              unfold unFl at w
              dsimp only at w
              intro reg2 σ2 H2 r2
              cases eu : unFz i e2 with
              | ok e3 =>
                rw [eu] at w
                obtain ⟨a1, a2⟩ := (r2.unfz eu).unlock (unFz_no eu) hx hG hGp rs.exd
                exact ⟨a1, w _ _ _ a2⟩
              | exc c => rw [eu] at w; cases (show False by unfold unFz at eu; split at eu <;> (try split at eu) <;> cases eu)
              | stuck => rw [eu] at w; exact w.elim
            | ct e2 =>
              unfold unFl at w
              dsimp only at w
              intro reg2 σ2 H2 r2
              cases eu : unFz i e2 with
              | ok e3 =>
                rw [eu] at w
                obtain ⟨a1, a2⟩ := (r2.unfz eu).unlock (unFz_no eu) hx hG hGp rs.exd
                exact ⟨a1, w _ _ _ a2⟩
              | exc c => rw [eu] at w; cases (show False by unfold unFz at eu; split at eu <;> (try split at eu) <;> cases eu)
              | stuck => rw [eu] at w; exact w.elim
            | rt d =>
              intro v H2 e2 tb hv
              have a1 : H2 p = some (.frz o (.dK kvs)) := e2.k _ _ upd_same rfl
              refine ⟨a1, w v _ ⟨fun a u ha n => ?_⟩ (tabs_wr tb a1 rfl fun a ha => upd_ne ha) ?_⟩
              · by_cases z : a = p
                · rw [z, upd_same, ← hGp, ← z]
                  exact hG.k a u ha n
                · rw [upd_ne z]
                  exact e2.k a u (by rw [upd_ne z]; exact hG.k a u ha n) n
              · rw [hid_upd_at hx]
                exact hv.mono (unlk_le (by rw [hid_at hx]; exact a1))
            | rm d e => exact w.elim
            | rn d e => exact w.elim
            | xm d e => exact w.elim
            | pr i d e => exact w.elim
          | exc c => exact w.elim
          | stuck => exact w.elim
        · refine .inr (h H0 ext reg _ σ H (rs.fzset e h1 hz hr hp) D ?_)
          generalize f (en.set i (.fz es)) = x at w ⊢
          cases x with
          | ok fl =>
            simp only [R.noexc_ok, R.bind_ok] at w
            have key : ∀ e2 (g : En → Fl), (∀ r, WS C H0 ext D ((unFz i e2).bind fun e => R.ok (g e)) → r = unFz i e2 → ∃ e3, r = .ok e3 ∧ WS C H0 ext D (.ok (g e3))) := fun e2 g r w hr => by
              subst hr
              cases eu : unFz i e2 with
              | ok e3 => rw [eu] at w; exact ⟨e3, rfl, w⟩
              | exc c => cases (show False by unfold unFz at eu; split at eu <;> (try split at eu) <;> cases eu)
              | stuck => rw [eu] at w; exact w.elim
            cases fl with
            | nx e2 =>
              obtain ⟨e3, q1, q2⟩ := key e2 Fl.nx _ w rfl
              exact fun reg2 σ2 H2 r2 => q2 _ _ _ (r2.unfz q1)
            | bk e2 =>
              obtain ⟨e3, q1, q2⟩ := key e2 Fl.bk _ w rfl
              exact fun reg2 σ2 H2 r2 => q2 _ _ _ (r2.unfz q1)
            | ct e2 =>
              obtain ⟨e3, q1, q2⟩ := key e2 Fl.ct _ w rfl
              exact fun reg2 σ2 H2 r2 => q2 _ _ _ (r2.unfz q1)
            | rt d => exact w
            | rm d e => exact w.elim
            | rn d e => exact w.elim
            | xm d e => exact w.elim
            | pr i d e => exact w.elim
          | exc c => exact w.elim
          | stuck => exact w.elim
      | _ => exact w.elim
    | _ => exact w.elim
/-! ### the keys of a locked dict -/
def dKeys (i : Nat) : En → R (List PD) := fun en => match en[i]? with
  | some (.fz es) => .ok (es.map (·.1))
  | _ => .stuck
theorem RpK.get {K : PySem.W.Frag} {H : Hp} : ∀ {kvs : List (Key × V)} {es : List (PD × PD)} {i : Nat} {e : PD × PD}, RpK K H kvs es → es[i]? = some e → ∃ k v, kvs[i]? = some (k, v) ∧ e.1 = kD k ∧ Rp K H v e.2
  | _, _, _, _, .nil, h => by simp at h
  | _, _, 0, _, .cons h _, e => by simp at e; subst e; exact ⟨_, _, rfl, rfl, h⟩
  | _, _, i + 1, _, .cons _ r, e => by
    obtain ⟨k, v, h1, h2⟩ := RpK.get (i := i) r (by simpa using e)
    exact ⟨k, v, by simpa using h1, h2⟩
theorem rp_key {K : PySem.W.Frag} {H : Hp} (k : Key) : Rp K H (kV k) (kD k) := by
  cases k with
  | inl i => exact .int i
  | inr x => exact .str x
theorem ei_keys (i : Nat) : EdI C (iKeys (tVar i)) (dKeys i) := fun H0 ext reg en σ H rs Q w => by
  unfold dKeys at w
  cases e : en[i]? with
  | none => rw [e] at w; exact w.elim
  | some sv =>
    rw [e] at w
    cases sv with
    | fz es =>
      obtain ⟨v, h1, p, o, kvs, rfl, h2, h3⟩ := rs.sl i _ e
      refine ⟨_, h1, p, o, rfl, .inl ⟨kvs, hid_ex.k _ _ h2 rfl, w _ H (Xt.refl H) fun Z H' e' hz j => ⟨fun d hd => ?_, fun hl => ?_⟩⟩⟩
      · have q1 : H' p = some (.frz o (.dK kvs)) := hid_ex.k _ _ (e'.k _ _ h2 rfl) rfl
        rw [List.getElem?_map] at hd
        cases q : es[j]? with
        | none => rw [q] at hd; cases hd
        | some x =>
          rw [q] at hd
          cases hd
          obtain ⟨k, v, h4, h5, _⟩ := h3.get q
          refine ⟨⟨q1, (List.getElem?_eq_some_iff.mp h4).1⟩, ?_⟩
          rintro x H'' ⟨rfl, k', v', h6, rfl⟩
          rw [h4] at h6
          cases h6
          show Xt H'' H'' ∧ Rp C.K (hid H'' Z) (kV k) x.1
          rw [h5]
          exact ⟨Xt.refl _, rp_key k⟩
      · refine ⟨hid_ex.k _ _ (e'.k _ _ h2 rfl) rfl, ?_⟩
        rw [List.length_map] at hl
        rw [h3.length]
        exact Nat.le_of_eq hl
    | _ => exact w.elim
end
end Dn

/-! How many texts of a list are unlike: len(set(texts)). -/
namespace Dn
open PySem L2 PySem.Spec PyProof.Rows
/-- how many unlike texts the first i are -/
def unlike (xs : List Str) : Nat → Nat
  | 0 => 0
  | i + 1 => if (xs.take i).any (· == xs.getD i Str.empty) = true then unlike xs i else unlike xs i + 1
theorem unlike_le (xs : List Str) : ∀ i, unlike xs i ≤ i
  | 0 => Nat.le_refl _
  | i + 1 => by
    unfold unlike
    have := unlike_le xs i
    split <;> omega
section
variable {prog : Program} {w : World} {A : Around} {R : Result → Shared → Prop} {I : Addr} {fp wr : List Addr} {G : Array GenState → Array GenState → Prop} {n : Nat} {P : Nat → Value → Prop} {St : Nat → Shared → Prop}
theorem loopTexts (W : WalksS prog w A.in1 I fp wr G n P St) (S : Addr) (hSf : S ∉ fp) (xs : List Str) (hsz : xs.length = n) (hn1 : n + 1 < scanBound)
    (hval : ∀ i v, P i v → ∃ t, v = .str (xs.getD i Str.empty) t) :
    ∀ (k i : Nat) (s : Shared), n - i = k → i ≤ n → St i s →
      s.heap.SetOf (PySem.strKind prog w) S (fun k' => (xs.take i).any (· == k')) (unlike xs i) →
      (∀ s', Moved (S :: wr) G s s' → s'.heap.SetOf (PySem.strKind prog w) S (fun k' => (xs.take n).any (· == k')) (unlike xs n) → R (.ok (.ret .none)) s') →
      codeAny (model prog w) A (.builtin "set.update.loop" ⟨[.ref S, .ref I], []⟩) R s := by
  have hSw : S ∉ wr := fun h => hSf (W.sub _ h)
  have hsub : ∀ b ∈ wr, b ∈ S :: wr := fun b hb => List.mem_cons_of_mem _ hb
  intro k
  induction k with
  | zero =>
    intro i s hk hi hst hS hR
    have hin : i = n := by omega
    subst hin
    refine codeAny_builtin PyProof.Rows.F.entry_set_update_loop ?_
    rw [Around.under_plainId PyProof.Rows.F.plain_set_update_loop _]
    show wpAny _ A.in1 (pyNext (.ref I) >>= _) _ _ s
    refine wpAny_bind (W.done s _ _ hst fun s' hm => ?_)
    show wpAny _ A.in1 (ret Value.none) _ _ s'
    exact wpAny_pure (hR s' (hm.mono hsub) (by
      obtain ⟨o, es, ep, t, ho, rest⟩ := hS
      exact ⟨o, es, ep, t, hm.heap S _ hSw ho, rest⟩))
  | succ k ih =>
    intro i s hk hi hst hS hR
    have hlt : i < n := by omega
    refine codeAny_builtin PyProof.Rows.F.entry_set_update_loop ?_
    rw [Around.under_plainId PyProof.Rows.F.plain_set_update_loop _]
    show wpAny _ A.in1 (pyNext (.ref I) >>= _) _ _ s
    refine wpAny_bind (W.item i s _ _ hlt hst fun v s' hP hst' hm => ?_)
    obtain ⟨t, rfl⟩ := hval i v hP
    have hS' : s'.heap.SetOf (PySem.strKind prog w) S (fun k' => (xs.take i).any (· == k')) (unlike xs i) := by
      obtain ⟨o, es, ep, tb, ho, rest⟩ := hS
      exact ⟨o, es, ep, tb, hm.heap S _ hSw ho, rest⟩
    show wpAny _ A.in1 (holding [Value.str (xs.getD i Str.empty) t] (setAdd S (.str (xs.getD i Str.empty) t)) >>= _) _ _ s'
    refine wpAny_bind (wpAny_holding ?_)
    unfold setAdd
    refine wpAny_holding ?_
    refine wpAny_bind ((PySem.strKind prog w).pyHash (k := xs.getD i Str.empty) (strKind_is _ _ _ _) ?_)
    have hun := unlike_le xs i
    refine wpAny_setAddHashed_of (knd := PySem.strKind prog w) (s := { s' with toks := s'.toks + 1 }) (strKind_is _ _ _ _) rfl hS' (by omega) fun h' hsb hS2 => ?_
    have hSi : h'.SetOf (PySem.strKind prog w) S (fun k' => (xs.take (i + 1)).any (· == k')) (unlike xs (i + 1)) := by
      refine SetOf_congr hS2 (fun k' => ?_) rfl
      have hx : xs.getD i Str.empty = xs[i]'(by omega) := by
        rw [List.getD_eq_getElem?_getD, List.getElem?_eq_getElem (by omega)]
        rfl
      show ((xs.take i).any (· == k') || decide (k' = xs.getD i Str.empty)) = (xs.take (i + 1)).any (· == k')
      rw [List.take_succ, List.getElem?_eq_getElem (by omega), List.any_append, hx]
      congr 1
      show _ = ((xs[i]'(by omega) == k') || false)
      rw [Bool.or_false]
      by_cases e : k' = xs[i]'(by omega)
      · rw [decide_eq_true e, e]
        simp
      · rw [decide_eq_false e]
        symm
        simpa [beq_iff_eq] using fun h' : xs[i]'(by omega) = k' => e h'.symm
    refine wpAny_pure ⟨plainId_quiet PyProof.Rows.F.plain_set_update_loop _, ih (i + 1) _ (by omega) hlt (W.frame _ s' _ _ hst' (Nat.le_succ _) fun b hb o e => ?_) hSi fun s'' hm'' hS'' => ?_⟩
    · rw [hsb.2 b (fun h : b = S => hSf (by rw [← h]; exact hb))]; exact e
    · refine hR s'' (Moved.trans W.gtrans ((hm.mono hsub).then_heap (Nat.le_succ _) fun b o hb e => ?_) hm'') hS''
      rw [hsb.2 b (fun h : b = S => hb (by rw [h]; exact List.mem_cons_self))]; exact e
end
section
variable {prog : Program} {w : World} {A : Around} {E : Value → Shared → Prop} {s : Shared}
theorem call_set_texts {l : Addr} {items : Array Value} {xs : List Str} {Q : Value → Shared → Prop}
    (hh : A.handled = none) (hl : s.heap.IsList l items) (hi : PyProof.Rows.StrsAre items.toList xs) (hn1 : xs.length + 1 < scanBound)
    (h : ∀ (h' : Heap) (tk : Nat), h'.SetOf (PySem.strKind prog w) s.heap.objs.size (fun k' => (xs.take items.size).any (· == k')) (unlike xs items.size) →
      (∀ b o, b < s.heap.objs.size → s.heap.get? b = some o → h'.get? b = some o) → Q (.ref s.heap.objs.size) { s with heap := h', toks := tk }) :
    wpAny (model prog w) A (call (.type "set") [.ref l]) Q E s := by
  obtain ⟨c, tl, hmro⟩ := PySem.F.called_set.mro
  have hmade := PySem.F.called_set.made
  have hsub := PySem.F.called_set.sub
  refine wpAny_call (codeAny_of_tree ?_)
  show wpAny _ _ (callAny (.type "set") _) _ _ _
  refine wpAny_pure ⟨Code.quiet_builtin _ (by decide +kernel), codeAny_builtin PySem.F.entry_type_call ?_⟩
  rw [Around.under_plain (weight_type_call_type "set" [.ref l] []) rfl]
  have h1 := PySem.F.called_set.notType
  have h2 := PySem.F.called_set.canCreate
  have hct := PySem.F.typeCall_set_1 (.ref l)
  repeat (any_goals (first | assumption | wp_step))
  refine codeAny_mono (code_set_new_1 (.ref l) (E := E) (Q₁ := fun obj s₁ => ∃ led : Bool, obj = .ref s.heap.objs.size ∧ s₁ = { s with heap := s.heap.push { cls := .type "set", dict := none, data := .set #[] 0 (.fresh 0 0 led) } }) fun led => ⟨led, rfl, rfl⟩) fun r s₁ hr => ?_
  cases r with
  | error e => exact hr
  | ok fl =>
    cases fl with
    | ret obj =>
      obtain ⟨led, rfl, rfl⟩ := hr
      have hS : (s.heap.push { cls := .type "set", dict := none, data := .set #[] 0 (.fresh 0 0 led) }).get? s.heap.objs.size = some { cls := .type "set", dict := none, data := .set #[] 0 (.fresh 0 0 led) } := Heap.get?_push_size _ rfl
      have hT : Shared.TypeIs { s with heap := s.heap.push { cls := .type "set", dict := none, data := .set #[] 0 (.fresh 0 0 led) } } (.ref s.heap.objs.size) "set" := ⟨_, hS, rfl⟩
      have hli := PySem.F.called_set.init.lookup
      have hbi := PySem.F.called_set.init.bind (.ref s.heap.objs.size)
      repeat (any_goals (first | assumption | wp_step))
      refine codeAny_mono (codeAny_call_builtin (R := wants (fun r s₂ => r = .none ∧ ∃ h' tk, s₂ = { s with heap := h', toks := tk } ∧
          h'.SetOf (PySem.strKind prog w) s.heap.objs.size (fun k' => (xs.take items.size).any (· == k')) (unlike xs items.size) ∧
          (∀ b o, b < s.heap.objs.size → s.heap.get? b = some o → h'.get? b = some o)) E) PySem.F.called_set.init.plain PySem.F.entry_set_init (check_set_init_1 hT ?_)) fun r₂ s₂ hr₂ => ?_
      · obtain ⟨ol, hol, hcl, nl, hdl⟩ := hl
        obtain ⟨ocls, odict, odata, oslots⟩ := ol
        simp only at hcl hdl
        subst hcl; subst hdl
        have hol' : (s.heap.push { cls := .type "set", dict := none, data := .set #[] 0 (.fresh 0 0 led) }).get? l = some { cls := .type "list", dict := odict, data := .seq items nl, slots := oslots } := Heap.get?_push_of_some _ hol
        have hsls := PySem.F.sub_list_set
        have hslf := PySem.F.sub_list_frozenset
        have hne : (Value.type "list" == Value.type "dict") = false := by decide
        have hl1 : (s.heap.push { cls := .type "set", dict := none, data := .set #[] 0 (.fresh 0 0 led) }).IsList l items := ⟨_, hol', rfl, nl, rfl⟩
        unfold Builtin.«set.__init__» noKeywords Builtin.Frozenset.updateFrom
        generalize hPI : pyIter = PI
        wp_walk
        subst hPI
        refine wpAny_pyIter_list hl1 ?_
        refine wpAny_bind (wpAny_runValue ?_)
        have hlS : l < s.heap.objs.size := Heap.lt_size hol
        have hh3 : A.in1.in1.in1.handled = none := by simp [hh]
        have hneI : l ≠ (s.heap.push { cls := .type "set", dict := none, data := .set #[] 0 (.fresh 0 0 led) }).objs.size := by
          rw [Heap.size_push]; exact Nat.ne_of_lt (Nat.lt_succ_of_lt hlS)
        have hSf : s.heap.objs.size ∉ [(s.heap.push { cls := .type "set", dict := none, data := .set #[] 0 (.fresh 0 0 led) }).objs.size, l] := by
          rw [Heap.size_push]; simp only [List.mem_cons, List.mem_singleton, List.not_mem_nil, or_false, not_or]
          exact ⟨Nat.ne_of_lt (Nat.lt_succ_self _), Nat.ne_of_gt hlS⟩
        have hsz : xs.length = items.size := by rw [← StrsAre.len_eq hi, Array.length_toList]
        have hval : ∀ (i : Nat) (v : Value), items[i]? = some v → ∃ t, v = .str (xs.getD i Str.empty) t := fun i v hv => SS.strs_at hi i v (by rw [Array.getElem?_toList]; exact hv)
        refine loopTexts ((Walks.list hh3 _ l hneI items).toS) s.heap.objs.size
          hSf xs hsz (by rw [← hsz]; exact hn1) hval (items.size - 0) 0 _ (by omega) (Nat.zero_le _)
          ⟨⟨_, Heap.get?_push_size _ rfl, rfl, rfl⟩, (hl1.push _)⟩ ?hS0 ?hR
        case hS0 =>
          have hget : ((s.heap.push { cls := .type "set", dict := none, data := .set #[] 0 (.fresh 0 0 led) }).push { cls := .type "list_iterator", data := .fields #[.ref l, .int 0 0] }).get? s.heap.objs.size
              = some { cls := .type "set", dict := none, data := .set #[] 0 (.fresh 0 0 led) } := Heap.get?_push_of_some _ hS
          exact PyProof.Rows.SetOf_congr ((PyProof.Rows.setObjOf_fresh (knd := PySem.strKind prog w) led).setOf hget (by unfold scanBound; omega)) (fun _ => rfl) rfl
        case hR =>
          intro s' hm hS'
          obtain ⟨h', g', d', tk', os'⟩ := s'
          have eg : g' = s.gens := hm.gens
          have ed : d' = s.drawn := hm.drawn
          have eo : os' = s.os := hm.os
          subst eg; subst ed; subst eo
          show wpAny _ _ _ _ _ _
          refine wpAny_pure ?_
          show wpAny _ _ (ret Value.none) _ _ _
          refine wpAny_pure ⟨rfl, h', tk', rfl, hS', fun b o hb e => ?_⟩
          have hb1 : b ≠ s.heap.objs.size := Nat.ne_of_lt hb
          have hb2 : b ≠ (s.heap.push { cls := .type "set", dict := none, data := .set #[] 0 (.fresh 0 0 led) }).objs.size := by
            rw [Heap.size_push]; exact Nat.ne_of_lt (Nat.lt_succ_of_lt hb)
          exact hm.heap b o (by simp only [List.mem_cons, List.mem_singleton, List.not_mem_nil, or_false, not_or]; exact ⟨hb1, hb2⟩) (Heap.get?_push_of_some _ (Heap.get?_push_of_some _ e))
      · cases r₂ with
        | error e => exact hr₂
        | ok fl₂ =>
          cases fl₂ with
          | ret r =>
            obtain ⟨rfl, h', tk, rfl, hS', hk'⟩ := hr₂
            repeat (any_goals (first | assumption | wp_step))
            exact h _ _ hS' hk'
          | _ => exact hr₂.elim
    | _ => exact hr.elim
end
/-! ### len(set(texts)) -/
def tLenU (K : PySem.W.Frag) (ta : TE) : TE := fun σ H Q => ta σ H fun x H1 => ∃ l, ∃ xs : List Str, x = .ref l ∧ SqL K H1 l (xs.map V.str) ∧ xs.length < 2000 ∧ Q (.int (unlike xs xs.length : Nat)) H1
theorem pe_lenU {X : Cx} {K : PySem.W.Frag} (hK : X.K = K) {a : Expr} {ta : TE} {p p2 q pos : Pos} (hc : X.calm = true) (hg : Gl X "len") (hm : X.mg "len" = none) (hg2 : Gl X "set") (hm2 : X.mg "set" = none) (ha : PE X a ta)
    (na : starEach [a] X.env = (false, eval a X.env) :: starEach [] X.env := by rfl) : PE X (.Call (.Name "len" p) [.Call (.Name "set" p2) [a] [] q] [] pos) (tLenU K ta) := by
  subst hK
  refine ⟨fun pins s σ H Q I h => ?_⟩
  refine Call_ (ld_blt I hg hm boot_len ?_)
  refine PyProof.Rows.callWith_builtin1 (PyProof.Rows.args_cons ?_ rfl) rfl rfl
  refine Call_ (ld_blt I hg2 hm2 boot_set ?_)
  refine PyProof.Rows.callWith_type1 (PyProof.Rows.args_cons (thn (ha.run pins s σ H _ I h) fun v s1 ⟨x, H1, I1, r1, q1⟩ => PyProof.Rows.args_nil ?_) na) na rfl
  obtain ⟨l, xs, rfl, hq, h1, q1⟩ := q1
  cases r1
  obtain ⟨its, r, pl, hz⟩ := I1.list hq
  refine call_set_texts (I1.ok.hd hc) pl.isList (by simpa using strsAre_of r) (by unfold scanBound; omega) fun h' tk hS hk => ?_
  refine PyProof.Rows.args_nil ?_
  have hl : its.toArray.size = xs.length := by rw [List.size_toArray, ← r.length, List.length_map]
  rw [hl] at hS
  obtain ⟨o, es, ep, t, ho, hex, hd, _, _, _, hf, hn⟩ := hS
  have I2 : Inv X pins σ H1 { s1 with heap := h', toks := tk } := I1.kept fun b o e => hk b o (Heap.lt_size e) e
  have hu := unlike_le xs xs.length
  exact call_len_set ho hex hd hf (by rw [hn]; omega) ⟨.int (unlike xs xs.length : Nat), H1, I2.tok _, ⟨_, by rw [hn]⟩, q1⟩
end Dn

/-! in, not in; texts cut and joined; lists made of things. -/
namespace Dn
open PySem L2
variable [Tabl]
/-! ### in -/
def rDIn (neg : Bool) : R2 := fun y x H Q => ∃ a o, x = .ref a ∧ DGet H a y o ∧ Q (.bl (if neg then !o.isSome else o.isSome)) H
def rInT : R2 := fun x y H Q => ∃ (c : Nat) (z : Str), x = .str ⟨#[c]⟩ ∧ y = .str z ∧ Q (.bl (decide (c ∈ z.cps.toList))) H
def rInA (K : PySem.W.Frag) : R2 := rOr (rDIn false) (rOr rInT (rIn K false))
def rNotInA (K : PySem.W.Frag) : R2 := rOr (rDIn true) (rIn K true)
theorem kx_in {X : Cx} (K : PySem.W.Frag) (h : X.K = K) (hu : X.A.units + 64 < cLine) : OpR X (compareOp .In) (rInA K) := by
  subst h
  refine opOr (fun pins s σ H x y v u Q I rx ry q => ?_) (opOr op_in_sign op_in_seq)
  obtain ⟨a, o, rfl, g, q⟩ := q
  obtain rfl : u = Value.ref a := ry
  exact d_in (by omega) I g rx fun s3 I3 => ⟨.bl o.isSome, H, I3, rfl, q⟩
theorem kx_notin {X : Cx} (K : PySem.W.Frag) (h : X.K = K) (hu : X.A.units + 64 < cLine) : OpR X (compareOp .NotIn) (rNotInA K) := by
  subst h
  refine opOr (fun pins s σ H x y v u Q I rx ry q => ?_) op_notIn_seq
  obtain ⟨a, o, rfl, g, q⟩ := q
  obtain rfl : u = Value.ref a := ry
  exact d_notIn (by omega) I g rx fun s3 I3 => ⟨.bl (!o.isSome), H, I3, rfl, q⟩
def flatD : PD → Bool
  | .none => true
  | .bool _ => true
  | .int _ => true
  | .str _ => true
  | _ => false
def eqF : PD → PD → Bool
  | .none, .none => true
  | .bool a, .bool b => a == b
  | .bool a, .int b => (if a then 1 else 0) == b
  | .int a, .bool b => a == (if b then 1 else 0)
  | .int a, .int b => a == b
  | .str a, .str b => a == b
  | _, _ => false
def inF (x : PD) (xs : List PD) : Bool := xs.any fun y => eqF y x
section
variable {K : PySem.W.Frag} {H Hs : Hp}
theorem Rp.flat {v : V} {d : PD} (h : Rp K H v d) (f : flatD d = true) : flatV v = true := by
  cases h <;> first | rfl | cases f
theorem Rp.eqF {v w : V} {d e : PD} (h : Rp K H v d) (g : Rp K Hs w e) (f : flatD d = true) (f' : flatD e = true) : eqV v w = Dn.eqF d e := by
  cases h <;> first | (cases f; done) | (cases g <;> first | rfl | (cases f'; done))
theorem RpA.flat : ∀ {vs : List V} {ds : List PD}, RpA K H vs ds → ds.all flatD = true → vs.all flatV = true
  | _, _, .nil, _ => rfl
  | _, _, .cons h r, f => by
    rw [List.all_cons, Bool.and_eq_true] at f ⊢
    exact ⟨h.flat f.1, RpA.flat r f.2⟩
theorem RpA.inF {x : V} {d : PD} (g : Rp K Hs x d) (f' : flatD d = true) : ∀ {vs : List V} {ds : List PD}, RpA K H vs ds → ds.all flatD = true → inV x vs = Dn.inF d ds
  | _, _, .nil, _ => rfl
  | _, _, .cons h r, f => by
    rw [List.all_cons, Bool.and_eq_true] at f
    have ih := RpA.inF g f' r f.2
    unfold inV Dn.inF at ih ⊢
    rw [List.any_cons, List.any_cons, ih, h.eqF g f.1 f']
end
def inD (neg : Bool) (x y : PD) : R PD := match y with
  | .dict es => match kOf x with
    | some k => .ok (.bool (if neg then !(lookD es k).isSome else (lookD es k).isSome))
    | none => .stuck
  | .str z => match x with
    | .str a => match neg, a.cps.toList with
      | false, [c] => .ok (.bool (decide (c ∈ z.cps.toList)))
      | _, _ => .stuck
    | _ => .stuck
  | .list xs => if (flatD x && xs.all flatD) = true then .ok (.bool (if neg then !inF x xs else inF x xs)) else .stuck
  | .tuple xs => if (flatD x && xs.all flatD) = true then .ok (.bool (if neg then !inF x xs else inF x xs)) else .stuck
  | _ => .stuck
theorem RpK.isSome {K : PySem.W.Frag} {H : Hp} {kvs : List (Key × V)} {es : List (PD × PD)} (r : RpK K H kvs es) (k : Key) : (valV kvs k).isSome = (lookD es k).isSome := by
  obtain ⟨h1, h2⟩ := r.look k
  cases e : lookD es k with
  | none => rw [h2 e]; rfl
  | some d =>
    obtain ⟨v, h3, _⟩ := h1 d e
    rw [h3]
    rfl
section
variable {C : Cn}
theorem RpL.rps {K : PySem.W.Frag} {H : Hp} {Y Z : AS} {v : V} {d : PD} (h : RpL K (hid H Z) (hid H Y) v d) (i : ∀ a, Y a → Z a) : Rp K H v d := (h.rp (hid_less i)).mono hid_ex.le
theorem o_in : Op2 C (rInA C.K) (inD false) := fun Y Z H v w x y Q hyz hz hx hy q => by
  unfold inD at q
  split at q
  · rename_i es
    split at q
    · rename_i k ek
      obtain ⟨p, kvs, rfl, h1, r1⟩ := hy.dct hyz
      refine .inl ⟨p, valV kvs k, rfl, .inl ⟨kvs, k, h1, hx.key ek, rfl⟩, ?_⟩
      rw [r1.isSome k]
      exact q _ H (Xt.refl H) (.bl _)
    · exact q.elim
  · rename_i z
    split at q
    · rename_i a
      split at q
      · rename_i c _ ec
        refine .inr (.inl ⟨c, z, ?_, hy.str, q _ H (Xt.refl H) (.bl _)⟩)
        rw [hx.str]
        congr 1
        obtain ⟨⟨l⟩⟩ := a
        rw [show l = [c] from ec]
      · exact q.elim
    · exact q.elim
  · rename_i xs
    split at q
    · rename_i hl
      obtain ⟨f1, f2⟩ := Bool.and_eq_true_iff.mp hl
      obtain ⟨p, vs, rfl, h1, r1⟩ := hy.lst hyz
      have h3 := hx.rps hyz
      exact .inr (.inr ⟨p, vs, rfl, .inl (SqL.of h1), h3.flat f1, r1.flat f2, by rw [r1.inF h3 f1 f2]; exact q _ H (Xt.refl H) (.bl _)⟩)
    · exact q.elim
  · rename_i xs
    split at q
    · rename_i hl
      obtain ⟨f1, f2⟩ := Bool.and_eq_true_iff.mp hl
      obtain ⟨p, vs, rfl, h1, r1⟩ := hy.tup hyz
      have h3 := hx.rps hyz
      exact .inr (.inr ⟨p, vs, rfl, .inr h1, h3.flat f1, r1.flat f2, by rw [r1.inF h3 f1 f2]; exact q _ H (Xt.refl H) (.bl _)⟩)
    · exact q.elim
  · exact q.elim
theorem o_notin : Op2 C (rNotInA C.K) (inD true) := fun Y Z H v w x y Q hyz hz hx hy q => by
  unfold inD at q
  split at q
  · rename_i es
    split at q
    · rename_i k ek
      obtain ⟨p, kvs, rfl, h1, r1⟩ := hy.dct hyz
      refine .inl ⟨p, valV kvs k, rfl, .inl ⟨kvs, k, h1, hx.key ek, rfl⟩, ?_⟩
      rw [r1.isSome k]
      exact q _ H (Xt.refl H) (.bl _)
    · exact q.elim
  · split at q
    · split at q
      · rename_i e1 _
        cases e1
      · exact q.elim
    · exact q.elim
  · rename_i xs
    split at q
    · rename_i hl
      obtain ⟨f1, f2⟩ := Bool.and_eq_true_iff.mp hl
      obtain ⟨p, vs, rfl, h1, r1⟩ := hy.lst hyz
      have h3 := hx.rps hyz
      exact .inr ⟨p, vs, rfl, .inl (SqL.of h1), h3.flat f1, r1.flat f2, by rw [r1.inF h3 f1 f2]; exact q _ H (Xt.refl H) (.bl _)⟩
    · exact q.elim
  · rename_i xs
    split at q
    · rename_i hl
      obtain ⟨f1, f2⟩ := Bool.and_eq_true_iff.mp hl
      obtain ⟨p, vs, rfl, h1, r1⟩ := hy.tup hyz
      have h3 := hx.rps hyz
      exact .inr ⟨p, vs, rfl, .inr h1, h3.flat f1, r1.flat f2, by rw [r1.inF h3 f1 f2]; exact q _ H (Xt.refl H) (.bl _)⟩
    · exact q.elim
  · exact q.elim
end
/-! ### d == {} -/
def rEqE : R2 := fun x y H Q => ∃ a b ks, x = .ref a ∧ y = .ref b ∧ Rd H a (.dK ks) ∧ Rd H b (.dK []) ∧ Q (.bl ks.isEmpty) H
theorem op_eqE {X : Cx} (hu : X.A.units + 64 < cLine) : OpR X (compareOp .Eq) rEqE := by
  intro pins s σ H x y v u Q I rx ry h
  obtain ⟨a, b, ks, rfl, rfl, ea, eb, q⟩ := h
  obtain rfl : v = Value.ref a := rx
  obtain rfl : u = Value.ref b := ry
  obtain ⟨_, ya, va, ra, da⟩ := dk_rd I.hok ea
  obtain ⟨_, yb, vb, rb, db⟩ := dk_rd I.hok eb
  cases rb
  have hl := ra.length
  refine PySem.W.keq_eq (knd := mixKind X.prog X.w) (r := true) ya yb da db (by omega) (fun h0 => ?_) (fin_bl I q ?_)
  · have : va = [] := List.length_eq_zero_iff.mp h0
    subst this
    exact .nil
  · cases ks with
    | nil => cases ra; rfl
    | cons p r => cases ra; rfl
def emptyD : PD → R PD
  | .dict es => .ok (.bool es.isEmpty)
  | _ => .stuck
section
variable {C : Cn} {ta : TE} {fa : En → R PD}
theorem ed_eqE (h : EdL C ta fa) : EdS C (tOp rEqE ta tDNewK) (d1 emptyD fa) := fun H0 ext reg en σ H rs Q w =>
  h.seq rs (W := WrS C (own ext reg) H Q) w (fun _ q => q) (fun q => q) fun x v H2 e2 r2 h2 w2 => fun p hp => by
    cases x with
    | dict es =>
      obtain ⟨a, kvs, rfl, h1, r1⟩ := h2.dct fun a z => .inl z
      have e3 : Xt H2 (upd H2 p (.dK [])) := Xt.new hp
      refine ⟨a, p, kvs, rfl, rfl, e3.toEx.rd h1, .inl upd_same, ?_⟩
      have : kvs.isEmpty = es.isEmpty := by cases r1 <;> rfl
      rw [this]
      exact w2 _ _ (e2.trans e3) (.bl _)
    | _ => exact w2.elim
end
end Dn

/-! texts cut and joined; lists made of things. -/
namespace Dn
open PySem L2
variable [Tabl]
def rNewL (ys : List V) : Hp → VK → Prop := fun H Q => ∀ p, H p = none → Q (.ref p) (upd H p (.lst ys))
theorem rpa_strs {K : PySem.W.Frag} {H : Hp} : ∀ (ys : List Str), RpA K H (ys.map V.str) (ys.map PyData.str)
  | [] => .nil
  | n :: r => .cons (.str n) (rpa_strs r)
/-! ### methods of texts with one argument -/
def dM1 {β : Type} (g : PD → PD → R β) (fo fe : En → R PD) : En → R β := fun en => (fo en).bind fun x => match x with
  | .str a => (fe en).bind fun y => g (.str a) y
  | _ => .stuck
def rSplit : V → List V → Hp → VK → Prop := fun x xs H Q => ∃ a b, x = .str a ∧ xs = [.str b] ∧ (b.length == 0) = false ∧ a.length + 2 ≤ sizeLine ∧ rNewStrs (Txt.split a b) H Q
def rJoin (K : PySem.W.Frag) : V → List V → Hp → VK → Prop := fun x xs H Q => ∃ a p, ∃ ys : List Str, x = .str a ∧ xs = [.ref p] ∧ (SqL K H p (ys.map V.str) ∨ SqT K H p (ys.map V.str)) ∧
      (ys.map (·.length)).sum + ys.length * a.length ≤ 16777216 ∧ Q (.str (Txt.join a ys)) H
def splitD : PD → PD → R (List PD)
  | .str a, .str b => if 1 ≤ b.length ∧ a.length + 2 ≤ szN then .ok ((Txt.split a b).map .str) else .stuck
  | _, _ => .stuck
def joinD : PD → PD → R PD
  | .str a, .list ds => match asStrs ds with
    | some ys => if (ys.map (·.length)).sum + ys.length * a.length ≤ szN then .ok (.str (Txt.join a ys)) else .stuck
    | none => .stuck
  | _, _ => .stuck
section
variable {X : Cx} {o e : Expr} {to te : TE}
theorem kpe_split {apos pos : Pos} (ho : PE X o to) (he : PE X e te) (hs : starEach [e] X.env = [(false, eval e X.env)] := by rfl) (hbase : attributeBase o "split" X.env (eval o X.env) = eval o X.env := by rfl) (hline : (apos.endLine == pos.line) = true := by rfl) :
    PE X (.Call (.Attribute o "split" apos) [e] [] pos) (tM1 rSplit to te) := pe_split ho he hs hbase hline
theorem kpe_join (K : PySem.W.Frag) (hK : X.K = K) {apos pos : Pos} (ho : PE X o to) (he : PE X e te) (hs : starEach [e] X.env = [(false, eval e X.env)] := by rfl) (hbase : attributeBase o "join" X.env (eval o X.env) = eval o X.env := by rfl) (hline : (apos.endLine == pos.line) = true := by rfl) :
    PE X (.Call (.Attribute o "join" apos) [e] [] pos) (tM1 (rJoin K) to te) := by subst hK; exact pe_join ho he hs hbase hline
end
section
variable {C : Cn} {to te : TE} {fo fe : En → R PD}
theorem ef_split (ho : EdL C to fo) (he : EdL C te fe) : EdF C (tM1 rSplit to te) (dM1 splitD fo fe) := fun H0 ext reg en σ H rs Q w =>
  ho.seq rs (W := WrF C (own ext reg) H Q) w (fun _ q => q) (fun q => q) fun x v H2 e2 r2 h2 w2 => by
    cases x with
    | str a =>
      refine ⟨⟨a, h2.str⟩, he.seq r2 (W := WrF C (own ext reg) H Q) w2 (fun _ q H3 e3 => q H3 (e2.trans e3)) (fun q => q) fun y u H3 e3 r3 h3 w3 => ?_⟩
      unfold splitD at w3
      split at w3
      · rename_i a' b ea
        cases ea
        split at w3
        · rename_i hl
          refine ⟨a, b, h2.str, by rw [h3.str], by simp; omega, sz_of hl.2, fun p hp => w3 p _ H3 (e2.trans e3) hp (rpa_strs _)⟩
        · exact w3.elim
      · exact w3.elim
    | _ => exact w2.elim
theorem ed_join (ho : EdL C to fo) (he : EdL C te fe) : EdS C (tM1 (rJoin C.K) to te) (dM1 joinD fo fe) := fun H0 ext reg en σ H rs Q w =>
  ho.seq rs (W := WrS C (own ext reg) H Q) w (fun _ q => q) (fun q => q) fun x v H2 e2 r2 h2 w2 => by
    cases x with
    | str a =>
      refine ⟨⟨a, h2.str⟩, he.seq r2 (W := WrS C (own ext reg) H Q) w2 (fun _ q H3 e3 => q H3 (e2.trans e3)) (fun q => q) fun y u H3 e3 r3 h3 w3 => ?_⟩
      unfold joinD at w3
      split at w3
      · rename_i a' ds ea
        cases ea
        split at w3
        · rename_i ys ey
          split at w3
          · rename_i hl
            obtain ⟨p, vs, rfl, hp, hr⟩ := h3.lst fun a z => .inl z
            rw [hr.asStrs ey] at hp
            exact ⟨a, p, ys, h2.str, rfl, .inl (SqL.of hp), by (have : szN = 1000000 := rfl); omega, w3 _ H3 (e2.trans e3) (.str _)⟩
          · exact w3.elim
        · exact w3.elim
      · exact w3.elim
    | _ => exact w2.elim
end
/-! ### calls that make a new list -/
def OpF (C : Cn) (r : List V → Hp → VK → Prop) (g : List PD → R (List PD)) : Prop := ∀ (Y Z : AS) (H : Hp) (vs : List V) (xs : List PD) (Q : VK), (∀ a, Y a → Z a) → (∀ a, Z a → ∃ o, H a = some o) → RpLA C.K (hid H Z) (hid H Y) vs xs → WrF C Z H Q (g xs) → r vs H Q
def dNF (g : List PD → R (List PD)) (fa : En → R (List PD)) : En → R (List PD) := fun en => (fa en).bind g
def listD : List PD → R (List PD)
  | [.list ds] => chk ds
  | [.tuple ds] => chk ds
  | [.str z] => if z.length ≤ szN then .ok (z.cps.toList.map fun c => .str ⟨#[c]⟩) else .stuck
  | [.dict es] => .ok (es.map (·.1))
  | _ => .stuck
def rListSq (K : PySem.W.Frag) : List V → Hp → VK → Prop := fun xs H Q => ∃ p ys, xs = [.ref p] ∧ (SqL K H p ys ∨ SqT K H p ys) ∧ ∀ l, H l = none → Q (.ref l) (upd H l (.lst ys))
def rListT : List V → Hp → VK → Prop := fun xs H Q => ∃ z : Str, xs = [.str z] ∧ z.length ≤ sizeLine ∧ ∀ l, H l = none → Q (.ref l) (upd H l (.lst (z.cps.toList.map fun c => V.str ⟨#[c]⟩)))
def rListDK : List V → Hp → VK → Prop := fun xs H Q => ∃ (a : Addr) (kvs : List (Key × V)), xs = [.ref a] ∧ Rd H a (.dK kvs) ∧ ∀ p, H p = none → Q (.ref p) (upd H p (.lst (kvs.map fun kv => kV kv.1)))
def rListA (K : PySem.W.Frag) : List V → Hp → VK → Prop := cOr (rListSq K) (cOr rListT rListDK)
theorem vals_signs : ∀ {l : List Nat} {us : List Value}, us.length = l.length → (∀ (i : Nat) (u : Value), us[i]? = some u → ∃ c t, l[i]? = some c ∧ u = .str ⟨#[c]⟩ t) → Vals (l.map fun c => V.str ⟨#[c]⟩) us
  | [], [], _, _ => .nil
  | [], _ :: _, h, _ => by simp at h
  | _ :: _, [], h, _ => by simp at h
  | c :: l, u :: us, h, k => by
    obtain ⟨c', t, h1, h2⟩ := k 0 u rfl
    cases h1
    exact .cons ⟨t, h2⟩ (vals_signs (by simpa using h) fun i v e => by
      obtain ⟨c', t, h1, h2⟩ := k (i + 1) v (by simpa using e)
      exact ⟨c', t, by simpa using h1, h2⟩)
theorem call_listT {X : Cx} (hc : X.calm = true) : CallR X (.type "list") rListT := by
  intro pins s σ H xs us Q I r h
  obtain ⟨z, rfl, hz, q⟩ := h
  obtain ⟨u, rfl, t, rfl⟩ := vals1 r
  refine PySem.call_list_str (I.ok.hd hc) z t (fun h' tk acc' c' kp e hi => ?_) hz
  refine ⟨.ref s.heap.objs.size, _, I.laid kp (Nat.le_refl _) (show ObjOk X.prog X.w _ h' _ (.lst (z.cps.toList.map fun c => V.str ⟨#[c]⟩)) from ⟨?_, acc'.toList, c', ?_, by rw [Array.toArray_toList]; exact e⟩), rfl, q _ (I.hok.fresh (Nat.le_refl _))⟩
  · rw [List.length_map, Array.length_toList]
    exact hz
  · refine vals_signs (by rw [Array.length_toList, Array.length_toList]; exact hi.1) fun i v hv => ?_
    obtain ⟨c, t', h1, h2⟩ := hi.2 i v (by rw [← hv, Array.getElem?_toList])
    exact ⟨c, t', by rw [Array.getElem?_toList]; exact h1, h2⟩
theorem kx_list {X : Cx} (K : PySem.W.Frag) (h : X.K = K) (hc : X.calm = true) : CallR X (.type "list") (rListA K) := by
  subst h
  exact callOr call_list_of (callOr (call_listT hc) (call_listD hc))
theorem RpK.keys {K : PySem.W.Frag} {H H' : Hp} : ∀ {kvs : List (Key × V)} {es : List (PD × PD)}, RpK K H kvs es → RpA K H' (kvs.map fun kv => kV kv.1) (es.map (·.1))
  | _, _, .nil => .nil
  | _, _, .cons _ r => .cons (rp_key _) r.keys
theorem rpa_signs {K : PySem.W.Frag} {H : Hp} : ∀ (l : List Nat), RpA K H (l.map fun c => V.str ⟨#[c]⟩) (l.map fun c => PyData.str ⟨#[c]⟩)
  | [] => .nil
  | n :: r => .cons (.str _) (rpa_signs r)
section
variable {C : Cn} {ta : TA} {fa : En → R (List PD)}
theorem ef_cb {r : List V → Hp → VK → Prop} {g : List PD → R (List PD)} (hr : OpF C r g) (ha : EdB C ta fa) : EdF C (tCB r ta) (dNF g fa) := fun H0 ext reg en σ H rs Q w =>
  ha.seq rs (W := WrF C (own ext reg) H Q) w (fun _ q => q) (fun q => q) fun x v H2 e2 r2 h2 w2 => hr ext (own ext reg) H2 v x Q (fun a z => .inl z) (fun a z => r2.there z) h2 (by
    generalize g x = y at w2 ⊢
    cases y with
    | ok ds => exact fun p xs H3 e3 hp hr => w2 p xs H3 (e2.trans e3) hp hr
    | exc c => exact fun H3 e3 => w2 H3 (e2.trans e3)
    | stuck => exact w2)
theorem f_list : OpF C (rListA C.K) listD := fun Y Z H vs xs Q hyz hz hx q => by
  unfold listD at q
  split at q
  · unfold chk at q
    split at q
    · obtain ⟨v, rfl, h⟩ := hx.one
      obtain ⟨p, ys, rfl, hp, hr⟩ := h.lst hyz
      exact .inl ⟨p, ys, rfl, .inl (SqL.of hp), fun l hl => q l ys H (Xt.refl H) hl hr⟩
    · exact q.elim
  · unfold chk at q
    split at q
    · obtain ⟨v, rfl, h⟩ := hx.one
      obtain ⟨p, ys, rfl, hp, hr⟩ := h.tup hyz
      exact .inl ⟨p, ys, rfl, .inr hp, fun l hl => q l ys H (Xt.refl H) hl hr⟩
    · exact q.elim
  · split at q
    · rename_i z hl
      obtain ⟨v, rfl, h⟩ := hx.one
      exact .inr (.inl ⟨z, by rw [h.str], sz_of hl, fun l hl => q l _ H (Xt.refl H) hl (rpa_signs _)⟩)
    · exact q.elim
  · obtain ⟨v, rfl, h⟩ := hx.one
    obtain ⟨p, kvs, rfl, hp, hr⟩ := h.dct hyz
    exact .inr (.inr ⟨p, kvs, rfl, hp, fun l hl => q l _ H (Xt.refl H) hl hr.keys⟩)
  · exact q.elim
/-! ### list(range(a, b)) -/
def lrg2 : List PD → R (List PD)
  | [.int i, .int j] => if (-(2 ^ 62) ≤ i ∧ i < 2 ^ 62 ∧ -(2 ^ 62) ≤ j ∧ j < 2 ^ 62) ∧ (j - i).toNat ≤ szN then .ok (rngL i (j - i).toNat) else .stuck
  | _ => .stuck
theorem rpa_rng {K : PySem.W.Frag} {H : Hp} (a : Int) : ∀ (l : List Nat), RpA K H (l.map fun (i : Nat) => V.int (a + (i : Int))) (l.map fun (i : Nat) => PyData.int (a + (i : Int)))
  | [] => .nil
  | n :: r => .cons (.int _) (rpa_rng a r)
theorem ef_lrg2 {t1 t2 : TE} {f1 f2 : En → R PD} (h1 : EdL C t1 f1) (h2 : EdL C t2 f2) : EdF C (tLstRg (tRg2 t1 t2)) (dNF lrg2 (dCons f1 (dCons f2 dNil))) := fun H0 ext reg en σ H rs Q w => by
  unfold dNF dCons dNil at w
  cases e1 : f1 en with
  | exc c => rw [e1] at w; exact h1 H0 ext reg en σ H rs _ (by rw [e1]; exact w)
  | stuck => rw [e1] at w; exact w.elim
  | ok x =>
    rw [e1] at w
    simp only [R.bind_ok] at w
    refine h1 H0 ext reg en σ H rs _ ?_
    rw [e1]
    intro v H2 e2 hv
    show t2 σ H2 _
    cases e3 : f2 en with
    | exc c => rw [e3] at w; exact h2 H0 ext reg en σ H2 (rs.ex e2) _ (by rw [e3]; exact fun H3 e => w H3 (e2.trans e))
    | stuck => rw [e3] at w; exact w.elim
    | ok y =>
      rw [e3] at w
      simp only [R.bind_ok] at w
      refine h2 H0 ext reg en σ H2 (rs.ex e2) _ ?_
      rw [e3]
      intro u H3 e4 hu
      unfold lrg2 at w
      split at w
      · rename_i i j eq
        cases eq
        split at w
        · rename_i hl
          refine ⟨i, j, hv.int, hu.int, ⟨hl.1.1, hl.1.2.1, hl.1.2.2.1, hl.1.2.2.2, Nat.le_trans hl.2 (by decide)⟩, fun q hq => w q _ H3 (e2.trans e4) hq (rpa_rng i _)⟩
        · exact w.elim
      · exact w.elim
end
end Dn

/-! enumerate of a text; sorted keys. -/
namespace Dn
open PySem L2 PyProof.Rows
/-- the signs of a text, each in a new pair with its place -/
def ItEs (x : Str) : It := ⟨fun i _ => i < x.cps.size, fun i H v H' => ∃ T c, v = .ref T ∧ H T = none ∧ x.cps[i]? = some c ∧ H' = upd H T (.tup [.int (i : Nat), .str ⟨#[c]⟩]), fun i _ => x.cps.size = i⟩
theorem turn_enumS {P : Program} {w : World} {K : PySem.W.Frag} {elts : List Expr} {kk : Nat} {tpos : Pos} (x : Str) (t : Tok) (e it : Addr) :
    Turn P w K (.Tuple elts kk tpos) (ItEs x) [e, it] e (fun i h => (∃ old, IsEnum h e it ((i : Nat) : Int) old) ∧ h.IsStrIter it (strIterType x) x t i ∧ e ≠ it) where
  mem := by simp
  obj := fun i h st b hb => by
    obtain ⟨⟨old, he⟩, ⟨o, ho, hc, hd⟩, _⟩ := st
    have e' : b = e ∨ b = it := by simpa using hb
    rcases e' with z | z
    · rw [z]; exact ⟨_, he, fun v q => nomatch q⟩
    · rw [z]; exact ⟨o, ho, fun v q => by rw [hd] at q; cases q⟩
  keep := fun i h h' st k => let ⟨⟨old, he⟩, ⟨o, ho, r⟩, hne⟩ := st; ⟨⟨old, k e (by simp) _ he⟩, ⟨o, k it (by simp) o ho, r⟩, hne⟩
  item := by
    intro X hP hw hK hc i pins s σ H E I hf st hg
    subst hP hw hK
    obtain ⟨⟨old, he⟩, hit, hne⟩ := st
    have hel : e < s.heap.objs.size := Heap.lt_size he
    have hil : it < s.heap.objs.size := by obtain ⟨_, q, _⟩ := hit; exact Heap.lt_size q
    refine wpAny_pyNext_enum_itemD (Draws.text (A := X.A.in1) (I.ok.hd hc) it x t) he hit hg hne (by simpa using hne) fun u h' tk hP ho hit' hT hsz hk => ?_
    obtain ⟨c, tc, hcx, rfl⟩ := hP
    refine ⟨_, rfl, wpAny_letOwnedTupleGo_enum (s := { s with heap := h', toks := tk + 1 }) ho fun h'' he' sb => ?_⟩
    have hT2 : h''.get? s.heap.objs.size = some { cls := .type "tuple", data := .seq #[.int i tk, .str ⟨#[c]⟩ tc] } := (sb.2 _ (Nat.ne_of_gt hel)).trans hT
    have new : ObjOk X.prog X.w (upd H s.heap.objs.size (.tup [.int (i : Nat), .str ⟨#[c]⟩])) h'' s.heap.objs.size (.tup [.int (i : Nat), .str ⟨#[c]⟩]) :=
      ⟨by show 2 ≤ sizeLine; decide, [.int i tk, .str ⟨#[c]⟩ tc], .cons ⟨_, rfl⟩ (.cons ⟨_, rfl⟩ .nil), ⟨_, hT2, rfl, _, rfl⟩⟩
    have I1 : Inv X pins σ (upd H s.heap.objs.size (.tup [.int (i : Nat), .str ⟨#[c]⟩])) { s with heap := h'', toks := tk + 1 } :=
      I.turnedNew (ch := [e, it]) (fun b ob hb q => (sb.2 b (fun z => hb (by simp [z]))).trans (hk b ob (fun z => hb (by simp [z])) (fun z => hb (by simp [z])) q)) hf (Nat.le_refl _) new
    refine ⟨.ref s.heap.objs.size, _, I1, rfl, ⟨_, c, rfl, I.hok.fresh (Nat.le_refl _), hcx, rfl⟩, ⟨⟨.str ⟨#[c]⟩ tc, ?_⟩, ?_, hne⟩, fun b hb => ?_⟩
    · have e1 : ((i + 1 : Nat) : Int) = (i : Int) + 1 := by omega
      rw [e1]; exact he'
    · obtain ⟨o, q, r⟩ := hit'
      exact ⟨o, (sb.2 it (Ne.symm hne)).trans q, r⟩
    · have hb' : b < s.heap.objs.size := by
        have e' : b = e ∨ b = it := by simpa using hb
        rcases e' with z | z
        · rw [z]; exact hel
        · rw [z]; exact hil
      rw [upd_ne (Nat.ne_of_lt hb')]
      exact (hf b hb).1
  done := by
    intro X hP hw hK hc i pins s σ H E I hf st hg
    subst hP hw hK
    obtain ⟨⟨old, he⟩, hit, hne⟩ := st
    obtain ⟨f0, f1, f2, f3, f4, f5⟩ := hf it (by simp)
    have hg' : x.cps.size = i := hg
    exact wpAny_pyNext_enum_endD (Draws.text (A := X.A.in1) (I.ok.hd hc) it x t) he (by rw [hg']; exact hit) fun h' eb => ⟨rfl, I.turned (t' := s.toks) (fun b o hb q => eb b o hb q) f0 f1 f3 f4 f5⟩
  self := fun A i s Q E st h => let ⟨⟨_, he⟩, _⟩ := st; wpAny_pyIter_enum he h
def iEnumS (ta : TA) : TI := fun σ H R => ta σ H fun vs H1 => ∃ z : Str, vs = [.str z] ∧ R (ItEs z) H1
theorem pi_enumS {X : Cx} {e : Expr} {ta : TA} {p pos tpos : Pos} {elts : List Expr} {kk : Nat} (hg : Gl X "enumerate") (hm : X.mg "enumerate" = none) (ha : PA X [e] ta) (hs : starEach [e] X.env = [(false, eval e X.env)] := by rfl) :
    PI X (.Tuple elts kk tpos) (.Call (.Name "enumerate" p) [e] [] pos) (iEnumS ta) := by
  refine ⟨fun pins s σ H R I h => ?_⟩
  refine Call_ (ld_blt I hg hm boot_enumerate (PyProof.Rows.callWith_type1 (thn (ha.run pos pins s σ H _ I h) fun us s1 ⟨vs, H1, I1, r1, q1⟩ => ?_) hs rfl))
  obtain ⟨z, ex, q⟩ := q1
  subst ex
  obtain ⟨u, rfl, t, rfl⟩ := vals1 r1
  refine call_enumerate_str fun h' he hit hsz hk => wpAny_pyIter_enum he ?_
  have I2 : Inv X pins σ H1 { s1 with heap := h' } := I1.kept (t' := s1.toks) hk
  refine ⟨s1.heap.objs.size + 1, [s1.heap.objs.size + 1, s1.heap.objs.size], _, _, H1, rfl, I2, turn_enumS z t (s1.heap.objs.size + 1) s1.heap.objs.size, ⟨⟨.none, he⟩, hit, Nat.succ_ne_self _⟩, fun b hb => ?_, q⟩
  have e' : b = s1.heap.objs.size + 1 ∨ b = s1.heap.objs.size := by simpa using hb
  have hle : s1.heap.objs.size ≤ b := by
    rcases e' with z | z
    · rw [z]; exact Nat.le_add_right _ _
    · rw [z]; exact Nat.le_refl _
  exact I1.fpOk hle (I1.hok.fresh hle)
/-! ### texts in order -/
def leT (a b : Str) : Bool := !Spec.ltCps b.cps.toList a.cps.toList
theorem leT_iff (a b : Str) : leT a b = true ↔ a.cps.toList ≤ b.cps.toList := by
  unfold leT
  rw [PyProof.Rows.ltCps_eq]
  show (!decide _) = true ↔ ¬ (b.cps.toList < a.cps.toList)
  simp
theorem leT_trans {a b c : Str} (h : leT a b = true) (h' : leT b c = true) : leT a c = true := (leT_iff _ _).mpr (List.le_trans ((leT_iff _ _).mp h) ((leT_iff _ _).mp h'))
theorem str_ext {a b : Str} (h : a.cps.toList = b.cps.toList) : a = b := by
  obtain ⟨⟨x⟩⟩ := a
  obtain ⟨⟨y⟩⟩ := b
  cases (show x = y from h)
  rfl
theorem leT_anti {a b : Str} (h : leT a b = true) (h' : leT b a = true) : a = b := str_ext (List.le_antisymm ((leT_iff _ _).mp h) ((leT_iff _ _).mp h'))
theorem leT_total (a b : Str) : leT a b = true ∨ leT b a = true := by
  rcases List.le_total a.cps.toList b.cps.toList with h | h
  · exact .inl ((leT_iff _ _).mpr h)
  · exact .inr ((leT_iff _ _).mpr h)
def insT (x : Str) : List Str → List Str
  | [] => [x]
  | y :: r => if leT x y = true then x :: y :: r else y :: insT x r
def sortT : List Str → List Str
  | [] => []
  | x :: r => insT x (sortT r)
theorem insT_perm (x : Str) : ∀ l, (insT x l).Perm (x :: l)
  | [] => .refl _
  | y :: r => by
    unfold insT
    split
    · exact .refl _
    · exact ((insT_perm x r).cons y).trans (.swap x y r)
theorem sortT_perm : ∀ l, (sortT l).Perm l
  | [] => .refl _
  | x :: r => (insT_perm x (sortT r)).trans ((sortT_perm r).cons x)
abbrev OrdT (l : List Str) : Prop := l.Pairwise fun a b => leT a b = true
theorem insT_ord (x : Str) : ∀ l, OrdT l → OrdT (insT x l)
  | [], _ => List.pairwise_singleton _ _
  | y :: r, h => by
    unfold insT
    rw [OrdT, List.pairwise_cons] at h
    split
    · rename_i hl
      refine List.pairwise_cons.mpr ⟨fun z hz => ?_, List.pairwise_cons.mpr h⟩
      rcases List.mem_cons.mp hz with rfl | hz
      · exact hl
      · exact leT_trans hl (h.1 z hz)
    · rename_i hl
      refine List.pairwise_cons.mpr ⟨fun z hz => ?_, insT_ord x r h.2⟩
      rcases List.mem_cons.mp ((insT_perm x r).mem_iff.mp hz) with rfl | hz
      · exact (leT_total z y).resolve_left hl
      · exact h.1 z hz
theorem sortT_ord : ∀ l, OrdT (sortT l)
  | [] => List.Pairwise.nil
  | x :: r => insT_ord x _ (sortT_ord r)
theorem ord_uniq : ∀ (l m : List Str), l.Perm m → OrdT l → OrdT m → l = m
  | [], m, p, _, _ => (List.nil_perm.mp p).symm
  | a :: l, [], p, _, _ => (nomatch List.perm_nil.mp p)
  | a :: l, b :: m, p, h, h' => by
    rw [OrdT, List.pairwise_cons] at h h'
    have e : a = b := by
      have ha := p.mem_iff.mp (List.mem_cons_self (a := a) (l := l))
      have hb := p.mem_iff.mpr (List.mem_cons_self (a := b) (l := m))
      rcases List.mem_cons.mp ha with e | ha
      · exact e
      · rcases List.mem_cons.mp hb with e | hb
        · exact e.symm
        · exact leT_anti (h.1 b hb) (h'.1 a ha)
    subst e
    rw [ord_uniq l m (List.Perm.cons_inv p) h.2 h'.2]
theorem rising_ord : ∀ (p : Str) (l : List Str), risingS p l = true → OrdT (p :: l)
  | p, [], _ => List.pairwise_singleton _ _
  | p, x :: r, h => by
    unfold risingS at h
    rw [Bool.and_eq_true] at h
    have ih := rising_ord x r h.2
    refine List.pairwise_cons.mpr ⟨fun z hz => ?_, ih⟩
    rcases List.mem_cons.mp hz with rfl | hz
    · exact h.1
    · exact leT_trans h.1 ((List.pairwise_cons.mp ih).1 z hz)
theorem sorted_ord : ∀ (l : List Str), sortedS l = true → OrdT l
  | [], _ => List.Pairwise.nil
  | x :: r, h => rising_ord x r h
theorem sorted_eq {ys ks : List Str} (p : ys.Perm ks) (h : sortedS ys = true) : ys = sortT ks := ord_uniq _ _ (p.trans (sortT_perm ks).symm) (sorted_ord _ h) (sortT_ord ks)
def rSortDK : List V → Hp → VK → Prop := fun xs H Q => ∃ (a : Addr) (kvs : List (Key × V)) (ks : List Str), xs = [.ref a] ∧ Rd H a (.dK kvs) ∧ kvs.map (·.1) = ks.map Sum.inr ∧ ks.length < 64 ∧
    ∀ ys p, ys.Perm ks → sortedS ys = true → H p = none → Q (.ref p) (upd H p (.lst (ys.map V.str)))
def rSortA (K : PySem.W.Frag) : List V → Hp → VK → Prop := cOr rSortDK (rSortedS K)
variable [Tabl]
theorem kx_sorted {X : Cx} (K : PySem.W.Frag) (h : X.K = K) (hc : X.calm = true) : CallR X (.builtin "sorted") (rSortA K) := by
  subst h
  exact callOr (call_sortedD hc) cr_sortedS
def sortD : List PD → R (List PD)
  | [.dict es] => match asStrs (es.map (·.1)) with
    | some ks => if ks.length < 64 then .ok ((sortT ks).map .str) else .stuck
    | none => .stuck
  | [.list ds] => match asStrs ds with
    | some ks => if ks.length < 64 then .ok ((sortT ks).map .str) else .stuck
    | none => .stuck
  | _ => .stuck
theorem RpK.strs {K : PySem.W.Frag} {H : Hp} : ∀ {kvs : List (Key × V)} {es : List (PD × PD)} {ks : List Str}, RpK K H kvs es → asStrs (es.map (·.1)) = some ks → kvs.map (·.1) = ks.map Sum.inr
  | _, _, ks, .nil, e => by cases e; rfl
  | _, _, ks, .cons (k := k) (ds := ds) h r, e => by
    cases k with
    | inl i => cases e
    | inr x =>
      have e' : (asStrs (ds.map (·.1))).map (x :: ·) = some ks := e
      cases q : asStrs (ds.map (·.1)) with
      | none => rw [q] at e'; cases e'
      | some l =>
        rw [q] at e'
        cases e'
        rw [List.map_cons, List.map_cons, RpK.strs r q]
theorem f_sorted {C : Cn} : OpF C (rSortA C.K) sortD := fun Y Z H vs xs Q hyz hz hx q => by
  unfold sortD at q
  split at q
  · split at q
    · rename_i es ks ek
      split at q
      · rename_i hl
        obtain ⟨v, rfl, h⟩ := hx.one
        obtain ⟨p, kvs, rfl, hp, hr⟩ := h.dct hyz
        exact .inl ⟨p, kvs, ks, rfl, hp, hr.strs ek, hl, fun ys l hperm hsort hl => by
          rw [sorted_eq hperm hsort]
          exact q l _ H (Xt.refl H) hl (rpa_strs _)⟩
      · exact q.elim
    · exact q.elim
  · split at q
    · rename_i ds ks ek
      split at q
      · rename_i hl
        obtain ⟨v, rfl, h⟩ := hx.one
        obtain ⟨p, vs, rfl, hp, hr⟩ := h.lst hyz
        rw [hr.asStrs ek] at hp
        exact .inr ⟨p, ks, rfl, SqL.of hp, hl, fun ys l hperm hsort hl => by
          rw [sorted_eq hperm hsort]
          exact q l _ H (Xt.refl H) hl (rpa_strs _)⟩
      · exact q.elim
    · exact q.elim
  · exact q.elim
def signL (z : Str) : List PD := z.cps.toList.map fun c => .str ⟨#[c]⟩
def enumT : List PD → R (List PD)
  | [.str z] => .ok (enumFrom 0 (signL z))
  | _ => .stuck
section
variable {C : Cn}
/-- a walk that stands past its end only at its end -/
theorem ei_enumS {ta : TA} {fa : En → R (List PD)} (h : EdB C ta fa) : EdI C (iEnumS ta) (dItA enumT fa) := fun H0 ext reg en σ H rs Q w =>
  h.seq rs (W := WrI C (own ext reg) H Q) w (fun _ q => q) (fun q => q) fun x v H2 e2 r2 h2 w2 => by
    unfold enumT at w2
    split at w2
    · rename_i z
      obtain ⟨v, rfl, hv⟩ := h2.one
      obtain rfl := hv.str
      refine ⟨z, rfl, w2 _ H2 e2 fun Z H' e' hz i => ⟨fun d hd => ?_, fun hl => ?_⟩⟩
      · obtain ⟨y, hy, rfl⟩ := enumFrom_get hd
        unfold signL at hy
        rw [List.getElem?_map] at hy
        cases ec : z.cps.toList[i]? with
        | none => rw [ec] at hy; cases hy
        | some c =>
          rw [ec] at hy
          cases hy
          rw [Array.getElem?_toList] at ec
          refine ⟨?_, ?_⟩
          · show i < z.cps.size
            exact (Array.getElem?_eq_some_iff.mp ec).1
          · rintro u H'' ⟨T, c', rfl, nT, hc', rfl⟩
            rw [ec] at hc'
            cases hc'
            rw [Nat.zero_add]
            exact ⟨Xt.new nT, Rp.newT hz nT (.cons (.int _) (.cons (.str _) .nil))⟩
      · show z.cps.size = i
        rw [← hl, enumFrom_len]
        unfold signL
        simp
    · exact w2.elim
end
end Dn

/-! several names at once, new things among them; new dicts; expressions that change what a slot owns. -/
namespace Dn
open PySem L2
variable [Tabl]
section
variable {K : PySem.W.Frag} {H0 H : Hp} {ext : AS} {reg : Nat → AS} {en : En} {σ : L2.St}
/-- a new thing that is a stranger's -/
theorem RS.alien (r : RS K H0 ext reg en σ H) {p : Addr} {o : HO} (hp : H p = none) (ht : isTb o = false := by rfl) : RS K (hid (upd H p o) fun a => ∃ i, reg i a) (fun a => ext a ∨ a = p) reg en σ (upd H p o) := by
  have q := (r.ex (Xt.new (o := o) hp)).lift
  have np : ∀ i, ¬ reg i p := fun i z => by
    obtain ⟨u, e, _⟩ := (r.rg i p z).2
    rw [hp] at e
    cases e
  refine ⟨q.le, q.tb, fun a h => ?_, q.rg, q.dj, q.ro, q.len, fun j sv e => ?_⟩
  · rcases h with h | h
    · exact q.exd a h
    · exact ⟨o, by rw [h, hid_at fun ⟨i, z⟩ => np i z, upd_same], ht⟩
  · obtain ⟨v, h1, h2⟩ := r.sl j sv e
    refine ⟨v, h1, h2.mono (Ex.of fun a u q => ?_) fun a u z q n => (Ex.new hp).k a u q n⟩
    obtain ⟨z, q⟩ := hid_some q
    have ne : a ≠ p := fun e => by
      rw [e, hp] at q
      cases q
    rw [hid_at fun t => by
      rcases t with (t | t) | t
      · exact z (.inl t)
      · exact ne t
      · exact z (.inr t), upd_ne ne]
    exact q
end
/-! ### a, b = x, y -/
def setAll (σ : L2.St) : List Nat → List V → L2.St
  | i :: is, v :: vs => setAll (σ.set i (some v)) is vs
  | _, _ => σ
def WrP (C : Cn) (H0 : Hp) (ext : AS) (σ : L2.St) (H : Hp) (tg : List Nat) (Q : List V → Hp → Prop) : R En → Prop
  | .ok en2 => ∀ vs reg2 H2, Xt H H2 → vs.length = tg.length → RS C.K H0 ext reg2 en2 (setAll σ tg vs) H2 → Q vs H2
  | .exc c => ∀ H2, Xt H H2 → C.E (.ref (C.cl c)) none H2
  | .stuck => False
def EdP (C : Cn) (ta : TA) (tg : List Nat) (f : En → En → R En) : Prop := ∀ (H0 : Hp) (ext : AS) (reg : Nat → AS) (en : En) (σ : L2.St) (H : Hp), RS C.K H0 ext reg en σ H →
  ∀ (H0' : Hp) (ext' : AS) (reg' : Nat → AS) (en' : En) (σ' : L2.St), RS C.K H0' ext' reg' en' σ' H → (∀ a, own ext' reg' a → own ext reg a) → ∀ Q, WrP C H0' ext' σ' H tg Q (f en en') → ta σ H Q
def pNil : En → En → R En := fun _ e => .ok e
def pS (i : Nat) (fa : En → R PD) (fr : En → En → R En) : En → En → R En := fun en e => (fa en).bind fun d => fr en (e.set i (.sh d))
def pF (i : Nat) (fa : En → R (List PD)) (fr : En → En → R En) : En → En → R En := fun en e => (fa en).bind fun ds => if i < e.length then fr en (e.set i (.ol ds)) else .stuck
def pD (i : Nat) (fr : En → En → R En) : En → En → R En := fun en e => if i < e.length then fr en (e.set i (.od [])) else .stuck
section
variable {C : Cn} {te : TE} {ta : TA} {tg : List Nat} {fr : En → En → R En}
theorem WrP.push {H0 : Hp} {ext : AS} {σ : L2.St} {H H2 : Hp} {i : Nat} {v : V} {Q : List V → Hp → Prop} {r : R En} (e : Xt H H2) (w : WrP C H0 ext σ H (i :: tg) Q r) : WrP C H0 ext (σ.set i (some v)) H2 tg (fun vs H3 => Q (v :: vs) H3) r := by
  cases r with
  | ok en2 => exact fun vs reg2 H3 e3 hl r3 => w (v :: vs) reg2 H3 (e.trans e3) (by simp [hl]) r3
  | exc c => exact fun H3 e3 => w H3 (e.trans e3)
  | stuck => exact w
theorem ep_nil : EdP C tNil [] pNil := fun H0 ext reg en σ H rs H0' ext' reg' en' σ' rb hs Q w => w [] reg' H (Xt.refl H) rfl rb
theorem ep_S {i : Nat} {fa : En → R PD} (h : EdS C te fa) (hr : EdP C ta tg fr) : EdP C (tCons te ta) (i :: tg) (pS i fa fr) := fun H0 ext reg en σ H rs H0' ext' reg' en' σ' rb hs Q w =>
  h.seq rs (W := WrP C H0' ext' σ' H (i :: tg) Q) w (fun _ q => q) (fun q => q) fun d v H2 e2 r2 h2 w2 =>
    hr H0 ext reg en σ H2 r2 H0' ext' _ _ _ ((rb.ex e2).set (i := i) (h2.mono ((Ex.refl H2).hidLess hs).le)) (fun a z => hs a (own_drp z)) _ (w2.push e2)
theorem ep_F {i : Nat} {fa : En → R (List PD)} (h : EdF C te fa) (hr : EdP C ta tg fr) : EdP C (tCons te ta) (i :: tg) (pF i fa fr) := fun H0 ext reg en σ H rs H0' ext' reg' en' σ' rb hs Q w => h H0 ext reg en σ H rs _ (by
  unfold pF at w
  generalize fa en = x at w ⊢
  cases x with
  | ok ds =>
    intro p xs H2 e2 hp hx
    simp only [R.bind_ok] at w
    split at w
    · rename_i hi
      have e3 : Xt H2 (upd H2 p (.lst xs)) := Xt.new hp
      refine hr _ _ reg en σ _ ((rs.ex e2).alien hp) H0' ext' _ _ _ ((rb.ex e2).new (i := i) (sv := .ol ds) hi rfl hp ⟨p, xs, rfl, rfl, upd_same, hx.mono ((Ex.refl H2).hidLess hs).le⟩) (fun a z => ?_) _ (w.push (e2.trans e3))
      rcases z with z | ⟨j, ⟨_, z⟩ | ⟨_, z⟩⟩
      · rcases hs a (.inl z) with q | q
        · exact .inl (.inl q)
        · exact .inr q
      · rcases hs a (.inr ⟨j, z⟩) with q | q
        · exact .inl (.inl q)
        · exact .inr q
      · exact .inl (.inr z)
    · exact w.elim
  | exc c => exact w
  | stuck => exact w.elim)
theorem ep_D {i : Nat} (hr : EdP C ta tg fr) : EdP C (tCons tDNewK ta) (i :: tg) (pD i fr) := fun H0 ext reg en σ H rs H0' ext' reg' en' σ' rb hs Q w => fun p hp => by
  unfold pD at w
  split at w
  · rename_i hi
    have e3 : Xt H (upd H p (.dK [])) := Xt.new hp
    refine hr _ _ reg en σ _ (rs.alien hp) H0' ext' _ _ _ (rb.new (i := i) (sv := .od []) hi rfl hp ⟨p, [], rfl, rfl, upd_same, .nil⟩) (fun a z => ?_) _ (w.push e3)
    rcases z with z | ⟨j, ⟨_, z⟩ | ⟨_, z⟩⟩
    · rcases hs a (.inl z) with q | q
      · exact .inl (.inl q)
      · exact .inr q
    · rcases hs a (.inr ⟨j, z⟩) with q | q
      · exact .inl (.inl q)
      · exact .inr q
    · exact .inl (.inr z)
  · exact w.elim
def sParM (f : En → En → R En) : En → R Fl := fun en => (f en en).bind fun e => .ok (.nx e)
theorem es_par2 {i j : Nat} {f : En → En → R En} (h : EdP C ta [i, j] f) : Es C (tPar i j ta) (sParM f) := fun H0 ext reg en σ H rs D w => h H0 ext reg en σ H rs H0 ext reg en σ rs (fun _ z => z) _ (by
  unfold sParM at w
  generalize f en en = x at w ⊢
  cases x with
  | ok e =>
    intro vs reg2 H2 e2 hl r2
    match vs, hl with
    | [u, v], _ => exact ⟨u, v, rfl, w _ _ _ r2⟩
  | exc c => exact WS.exc w rs.le rs.tb
  | stuck => exact w.elim)
theorem es_par3 {i j l : Nat} {f : En → En → R En} (h : EdP C ta [i, j, l] f) : Es C (tPar3 i j l ta) (sParM f) := fun H0 ext reg en σ H rs D w => h H0 ext reg en σ H rs H0 ext reg en σ rs (fun _ z => z) _ (by
  unfold sParM at w
  generalize f en en = x at w ⊢
  cases x with
  | ok e =>
    intro vs reg2 H2 e2 hl r2
    match vs, hl with
    | [u, v, z], _ => exact ⟨u, v, z, rfl, w _ _ _ r2⟩
  | exc c => exact WS.exc w rs.le rs.tb
  | stuck => exact w.elim)
/-- x = {} -/
def sAsgD (i : Nat) : En → R Fl := fun en => if i < en.length then .ok (.nx (en.set i (.od []))) else .stuck
theorem es_asgD {i : Nat} : Es C (tAsg tDNewK (gName i)) (sAsgD i) := fun H0 ext reg en σ H rs D w => fun p hp => by
  unfold sAsgD at w
  split at w
  · rename_i hi
    exact w _ _ _ (rs.new (i := i) (sv := .od []) hi rfl hp ⟨p, [], rfl, rfl, upd_same, .nil⟩)
  · exact w.elim
end
/-! ### expressions that change what a slot owns -/
def WrE (C : Cn) (H0 : Hp) (ext : AS) (reg : Nat → AS) (σ : L2.St) (H : Hp) (Q : VK) : R (PD × En) → Prop
  | .ok (d, en') => ∀ v reg' H2, Ex (hid H (own ext reg)) (hid H2 (own ext reg')) → RS C.K H0 ext reg' en' σ H2 → Rp C.K (hid H2 (own ext reg')) v d → Q v H2
  | .exc c => ∀ H2, Ex H0 H2 → LamX.Tabs Tabl.T H2 → C.E (.ref (C.cl c)) none H2
  | .stuck => False
def EdE (C : Cn) (te : TE) (f : En → R (PD × En)) : Prop := ∀ (H0 : Hp) (ext : AS) (reg : Nat → AS) (en : En) (σ : L2.St) (H : Hp), RS C.K H0 ext reg en σ H → ∀ Q : VK, WrE C H0 ext reg σ H Q (f en) → te σ H Q
def eS (fa : En → R PD) : En → R (PD × En) := fun en => (fa en).bind fun d => .ok (d, en)
def ePop (i : Nat) (fa : En → R PD) : En → R (PD × En) := fun en => match en[i]? with
  | some (.ol ds) => (fa en).bind fun k => match k with
    | .int j => if -(2 ^ 63) ≤ j ∧ j < 2 ^ 63 then match seqIndex? j ds.length with
      | some n => match ds[n]? with
        | some d => .ok (d, en.set i (.ol (ds.eraseIdx n)))
        | none => .stuck
      | none => .stuck
      else .stuck
    | _ => .stuck
  | _ => .stuck
def eCall (F : List PD → R PD) (f : En → R (PD × En)) : En → R (PD × En) := fun en => (f en).bind fun p => (F [p.1]).bind fun r => .ok (r, p.2)
section
variable {C : Cn} {te ta : TE} {fa : En → R PD} {fe : En → R (PD × En)}
theorem ee_S (h : EdS C te fa) : EdE C te (eS fa) := fun H0 ext reg en σ H rs Q w =>
  h.seq rs (W := WrE C H0 ext reg σ H Q) w (fun _ q H2 e2 => q H2 (rs.le.trans e2.toEx) (e2.t rs.tb)) (fun q => q) fun d v H2 e2 r2 h2 w2 => w2 v reg H2 e2.toEx.hid r2 h2
theorem ee_pop {i : Nat} (h : EdL C ta fa) : EdE C (tBM C.K "list" rPopAt (tVar i) (tCons ta tNil)) (ePop i fa) := fun H0 ext reg en σ H rs Q w => by
  unfold ePop at w
  cases e : en[i]? with
  | none => rw [e] at w; exact w.elim
  | some sv =>
    rw [e] at w
    cases sv with
    | ol ds =>
      obtain ⟨p, xs, h1, h2, h3, h4⟩ := rs.at e
      refine ⟨.ref p, h1, .inl ⟨rfl, xs, SqL.of h3⟩, h.seq rs (W := WrE C H0 ext reg σ H Q) w (fun _ q H2 e2 => q H2 (rs.le.trans e2.toEx) (e2.t rs.tb)) (fun q => q) fun d v H2 e2 r2 hv w2 => ?_⟩
      split at w2
      · rename_i j
        split at w2
        · rename_i hj
          split at w2
          · rename_i n en'
            split at w2
            · rename_i d ed
              have h4' := h4.mono e2.toEx.hid.le
              obtain ⟨y, hy, ry⟩ := h4'.get ed
              refine ⟨p, xs, j, n, y, rfl, by rw [hv.int], e2.l h3, hj.1, hj.2, by rw [h4.length]; exact en', hy, w2 y reg _ ?_ (r2.wr (sv := .ol (ds.eraseIdx n)) rfl ⟨_, e2.l h3, rfl⟩ h2 h1 ⟨p, _, rfl, h2, upd_same, h4'.erase n⟩) ?_⟩
              · rw [hid_upd (.inr ⟨i, h2⟩)]
                exact e2.toEx.hid
              · rw [hid_upd (.inr ⟨i, h2⟩)]
                exact ry
            · exact w2.elim
          · exact w2.elim
        · exact w2.elim
      · exact w2.elim
    | _ => exact w.elim
theorem ee_call {F : List PD → R PD} (h : EdE C te fe) : EdE C (tCall (spF C.K C.cl 1 F) [] C.E (tCons te tNil)) (eCall F fe) := fun H0 ext reg en σ H rs Q w => h H0 ext reg en σ H rs _ (by
  unfold eCall at w
  generalize fe en = x at w ⊢
  cases x with
  | ok p =>
    obtain ⟨d, en'⟩ := p
    simp only [R.bind_ok] at w
    intro v reg' H2 e2 r2 hv
    refine ⟨own ext reg', [d], rfl, r2.tb, fun a z => r2.so z, .cons hv .nil, ?_⟩
    generalize F [d] = y at w ⊢
    cases y with
    | ok r => exact fun u H3 e3 hu => w u reg' H3 (e2.trans e3.toEx.hid) (r2.ex e3) hu
    | exc c => exact fun H3 e3 => w H3 (r2.le.trans e3.toEx) (e3.t r2.tb)
    | stuck => exact w
  | exc c => exact w
  | stuck => exact w)
/-- x = e -/
def sAsgE (i : Nat) (fe : En → R (PD × En)) : En → R Fl := fun en => (fe en).bind fun p => .ok (.nx (p.2.set i (.sh p.1)))
theorem es_asgE {i : Nat} (h : EdE C te fe) : Es C (tAsg te (gName i)) (sAsgE i fe) := fun H0 ext reg en σ H rs D w => h H0 ext reg en σ H rs _ (by
  unfold sAsgE at w
  generalize fe en = x at w ⊢
  cases x with
  | ok p =>
    obtain ⟨d, en'⟩ := p
    exact fun v reg' H2 e2 r2 hv => w _ _ _ (r2.set hv)
  | exc c => exact fun H2 e2 t2 => w H2 e2 t2
  | stuck => exact w)
def sDropE (fe : En → R (PD × En)) : En → R Fl := fun en => (fe en).bind fun p => .ok (.nx p.2)
theorem es_dropE (h : EdE C te fe) : Es C (tDrop te) (sDropE fe) := fun H0 ext reg en σ H rs D w => h H0 ext reg en σ H rs _ (by
  unfold sDropE at w
  generalize fe en = x at w ⊢
  cases x with
  | ok p =>
    obtain ⟨d, en'⟩ := p
    exact fun v reg' H2 e2 r2 hv => w _ _ _ r2
  | exc c => exact fun H2 e2 t2 => w H2 e2 t2
  | stuck => exact w)
/-! ### d[k] = v, the slot's own dict -/
def putD (es : List (PD × PD)) (k : Key) (d : PD) : List (PD × PD) := if (es.any fun e => eqK e.1 k) = true then es.map (fun e => if eqK e.1 k = true then (e.1, d) else e) else es ++ [(kD k, d)]
theorem RpK.app {K : PySem.W.Frag} {H : Hp} : ∀ {vs ws : List (Key × V)} {ds es : List (PD × PD)}, RpK K H vs ds → RpK K H ws es → RpK K H (vs ++ ws) (ds ++ es)
  | _, _, _, _, .nil, s => s
  | _, _, _, _, .cons h r, s => .cons h (RpK.app r s)
theorem RpK.any {K : PySem.W.Frag} {H : Hp} (k : Key) : ∀ {kvs : List (Key × V)} {es : List (PD × PD)}, RpK K H kvs es → (kvs.any fun kv => decide (kv.1 = k)) = es.any fun e => eqK e.1 k
  | _, _, .nil => rfl
  | _, _, .cons (k := j) h r => by
    rw [List.any_cons, List.any_cons, RpK.any k r, eqK_kD]
theorem RpK.repl {K : PySem.W.Frag} {H : Hp} (k : Key) {v : V} {d : PD} (hv : Rp K H v d) : ∀ {kvs : List (Key × V)} {es : List (PD × PD)}, RpK K H kvs es → RpK K H (kvs.map fun kv => if kv.1 = k then (kv.1, v) else kv) (es.map fun e => if eqK e.1 k = true then (e.1, d) else e)
  | _, _, .nil => .nil
  | _, _, .cons (k := j) h r => by
    rw [List.map_cons, List.map_cons, eqK_kD]
    by_cases e : j = k
    · rw [if_pos e, if_pos (decide_eq_true e)]
      exact .cons hv (RpK.repl k hv r)
    · rw [if_neg e, if_neg (by rw [decide_eq_false e]; exact Bool.false_ne_true)]
      exact .cons h (RpK.repl k hv r)
theorem RpK.put {K : PySem.W.Frag} {H : Hp} (k : Key) {v : V} {d : PD} (hv : Rp K H v d) {kvs : List (Key × V)} {es : List (PD × PD)} (r : RpK K H kvs es) : RpK K H (putK kvs k v) (putD es k d) := by
  unfold putK putD
  rw [r.any k]
  split
  · exact r.repl k hv
  · exact r.app (.cons hv .nil)
def sPut (i : Nat) (fy : En → R (PD × En)) (fv : En → R PD) : En → R Fl := fun en => match en[i]? with
  | some (.od _) => (fv en).bind fun v => (fy en).bind fun p => match p.2[i]?, kOf p.1 with
    | some (.od es), some k => if es.length + 1 ≤ szN then .ok (.nx (p.2.set i (.od (putD es k v)))) else .stuck
    | _, _ => .stuck
  | _ => .stuck
theorem RS.atD {K : PySem.W.Frag} {H0 H : Hp} {ext : AS} {reg : Nat → AS} {en : En} {σ : L2.St} {i : Nat} {es : List (PD × PD)} (r : RS K H0 ext reg en σ H) (h : en[i]? = some (.od es)) : ∃ p kvs, σ[i]? = some (some (.ref p)) ∧ reg i p ∧ H p = some (.dK kvs) ∧ RpK K (hid H (own ext reg)) kvs es := by
  obtain ⟨v, h1, p, xs, rfl, h2, h3, h4⟩ := r.sl i _ h
  exact ⟨p, xs, h1, h2, h3, h4⟩
theorem es_put {i : Nat} {ty tv : TE} {fy : En → R (PD × En)} {fv : En → R PD} (hy : EdE C ty fy) (hv : EdS C tv fv) : Es C (sDPut (tVar i) ty tv) (sPut i fy fv) := fun H0 ext reg en σ H rs D w => by
  unfold sPut at w
  cases e : en[i]? with
  | none => rw [e] at w; exact w.elim
  | some sv =>
    rw [e] at w
    cases sv with
    | od es0 =>
      obtain ⟨p, kvs0, h1, _, _, _⟩ := rs.atD e
      refine hv.seq rs (W := WS C H0 ext D) w (fun _ q => WS.exc q rs.le rs.tb) (fun q => q) fun d v H2 e2 r2 h2 w2 => ?_
      refine ⟨.ref p, h1, hy H0 ext reg en σ H2 r2 _ ?_⟩
      generalize fy en = x at w2 ⊢
      cases x with
      | exc c => exact fun H3 e3 t3 => w2 H3 e3 t3
      | stuck => exact w2.elim
      | ok q =>
        obtain ⟨y, en'⟩ := q
        simp only [R.bind_ok] at w2
        intro u reg' H3 e3 r3 hu
        split at w2
        · rename_i es k ei ek
          split at w2
          · rename_i hl
            obtain ⟨p', kvs, h5, h6, h7, h8⟩ := r3.atD ei
            have ep : p' = p := by
              rw [h1] at h5
              cases h5
              rfl
            subst ep
            refine ⟨p', _, rfl, ?_, w2 reg' σ _ (r3.wr (i := i) (sv := .od (putD es k d)) rfl ⟨_, h7, rfl⟩ h6 h5 ⟨p', _, rfl, h6, upd_same, h8.put k (h2.mono e3.le)⟩)⟩
            have eu : u = kV k := (RpL.s (H := H3) hu).key ek
            rw [eu]
            exact DPut.k h7 (sz_lt (by rw [h8.length]; omega))
          · exact w2.elim
        · exact w2.elim
    | _ => exact w.elim
end
end Dn

/-! replace: its texts must be two objects, so a token must be out. -/
namespace Dn
open PySem L2 PySem.Spec PyProof.Rows
section
variable {X : Cx}
/-- behind it a token is out -/
def PE1 (X : Cx) (e : Expr) (t : TE) : Prop := ∀ (pins : List (Addr × Obj)) (s : Shared) (σ : L2.St) (H : Hp) (Q : VK), Inv X pins σ H s → t σ H Q → wpAny (model X.prog X.w) X.A (eval e X.env) (fun v s' => 1 ≤ s'.toks ∧ EP X pins σ Q v s') X.xe s
def PA1 (X : Cx) (es : List Expr) (t : TA) : Prop := ∀ (pos : Pos) (pins : List (Addr × Obj)) (s : Shared) (σ : L2.St) (H : Hp) (Q : List V → Hp → Prop), Inv X pins σ H s → t σ H Q →
  wpAny (model X.prog X.w) X.A (spliced (backTo pos (starEach es X.env))) (fun v s' => 1 ≤ s'.toks ∧ AP X pins σ Q v s') X.xe s
theorem pe1_int {i : Int} {j : Nat} {pos : Pos} : PE1 X (.Constant (.int i) j pos) (tC (.int i)) := fun _ s _ H _ I h => wpAny_Constant_int ⟨Nat.le_add_left 1 s.toks, .int i, H, I.tok _, ⟨_, rfl⟩, h⟩
theorem pa1_here {e : Expr} {es : List Expr} {te : TE} {ta : TA} (ha : PE1 X e te) (hr : PA X es ta) (hs : starEach (e :: es) X.env = (false, eval e X.env) :: starEach es X.env := by rfl) : PA1 X (e :: es) (tCons te ta) := by
  intro pos pins s σ H Q I h
  rw [hs]
  show wpAny _ _ (spliced ((false, eval e X.env) :: backTo pos (starEach es X.env))) _ _ s
  refine Calls.spliced_cons (thn (ha pins s σ H _ I h) fun v s1 ⟨hk, x, H1, I1, r1, q1⟩ => ?_)
  refine wpAny_mono (PySem.wpAny_toks (hr.run pos pins s1 σ H1 _ I1 q1)) (fun us s2 q => ?_) fun _ _ z => z.2
  obtain ⟨hk2, xs, H2, I2, r2, q2⟩ := q
  exact ⟨Nat.le_trans hk hk2, x :: xs, H2, I2, .cons r1 r2, q2⟩
theorem pa1_later {e : Expr} {es : List Expr} {te : TE} {ta : TA} (ha : PE X e te) (hr : PA1 X es ta) (hs : starEach (e :: es) X.env = (false, eval e X.env) :: starEach es X.env := by rfl) : PA1 X (e :: es) (tCons te ta) := by
  intro pos pins s σ H Q I h
  rw [hs]
  show wpAny _ _ (spliced ((false, eval e X.env) :: backTo pos (starEach es X.env))) _ _ s
  refine Calls.spliced_cons (thn (ha.run pins s σ H _ I h) fun v s1 ⟨x, H1, I1, r1, q1⟩ => ?_)
  exact thn (hr pos pins s1 σ H1 _ I1 q1) fun us s2 ⟨hk2, xs, H2, I2, r2, q2⟩ => ⟨hk2, x :: xs, H2, I2, .cons r1 r2, q2⟩
theorem pe1_tup {es : List Expr} {k : Nat} {ta : TA} {pos : Pos} (h : PA1 X es ta) : PE1 X (.Tuple es k pos) (tTup ta) := by
  intro pins s σ H Q I hq
  refine wpAny_Tuple_spliced (thn (h pos pins s σ H _ I hq) fun us s1 ⟨hk, xs, H1, I1, r, z, q⟩ => ⟨by rw [← r.length]; exact z, ?_⟩)
  have hf : H1 s1.heap.objs.size = none := I1.hok.fresh (Nat.le_refl _)
  refine ⟨hk, .ref s1.heap.objs.size, upd H1 s1.heap.objs.size (.tup xs), I1.laid (t' := s1.toks) (fun b u e => Heap.get?_push_of_some _ e) (Nat.le_refl _) ?_, rfl, q _ hf⟩
  exact ⟨z, us, r, IsTup.new _ _⟩
theorem pe1_call {CX : List Env → Hp → Shared → XK → Value → Shared → Prop} {k : Nat} {f : Addr} {fd : FuncData} {ps : List Str} {sp : Sp} {x : Str} {ds : List Value} {dvs : List V} {E : XK} {e : Expr} {es : List Expr} {t : TA} {p pos : Pos}
    (F : FnOk X.prog X.w X.K X.mg X.base CX k f fd ps sp) (hr : Room k X.A) (hg : Gl X x) (hm : X.mg x = some (.ref f)) (hk : PySem.W.keepIn X.K (.ref f) = true) (hb : Binds X.K fd ps ds) (hd : Vals dvs ds) (hx : Passes CX X E)
    (ha : PA1 X (e :: es) t) (hdb : (x == ("__debug__" : Str)) = false := by decide) (he : starEach (e :: es) X.env = (false, eval e X.env) :: starEach es X.env := by rfl) (hpl : (backTo pos (starEach es X.env)).any (·.1) = false := by rfl) :
    PE1 X (.Call (.Name x p) (e :: es) [] pos) (tCall sp dvs E t) := by
  intro pins s σ H Q I h
  refine wpAny_Call_Name_kw (ld_glob I hg hm ?_ hdb)
  refine PySem.W.callWith_K (h₀ := X.base) I.ok.mod.kin hk (thn (ha pos pins s σ H _ I h) fun us s1 ⟨hk1, vs, H1, I1, r, q⟩ => ⟨I1.kIn, ?_⟩) he hpl
  refine wpAny_mono (PySem.wpAny_toks (run_fn F hr hb hd hx I1 r q)) (fun v s2 z => ⟨Nat.le_trans hk1 z.1, z.2⟩) fun _ _ z => z.2
theorem pss1_set {i : Nat} {x : Str} {e : Expr} {te : TE} {u : TS} {rest : List Stmt} {pos' pos : Pos} (hN : X.N.Nodup) (hi : X.N[i]? = some x) (hx : Loc X.env.scope x) (he : PE1 X e te) (h2 : PSsT X rest u) (hs : swapsWith e (some (.Name x pos')) pos.line X.env = pure false := by rfl) (hf : X.fn x = true ∨ X.env.scope.names.lookup x = some .local := by first | exact .inl rfl | exact .inr rfl | assumption) :
    PSs X (.Assign [.Name x pos'] e pos :: rest) (tSeq (tAsg te (gName i)) u) := by
  refine ⟨fun pins s σ H D I h => ?_⟩
  refine wpAny_execs_cons (wpAny_Assign_Name (thn (he pins s σ H _ I h) fun v s1 ⟨hk, y, H1, I1, r1, q1⟩ => ?_) hs)
  refine wpAny_mono (PySem.wpAny_toks (store_ok (Q := fun _ s2 => Inv X pins (σ.set i (some y)) H1 s2) I1 hN hi hx r1 (fun _ I2 => I2) hf)) (fun _ s2 q => ?_) fun _ _ z => z.2
  exact h2 pins s2 _ H1 D (Nat.le_trans hk q.1) q.2 q1
theorem psst_one {st : Stmt} {t : TS} (h1 : PST X st t) : PSsT X [st] t := by
  intro pins s σ H D h0 I h
  refine wpAny_execs_cons (thn (h1 pins s σ H D h0 I h) fun f s1 q => ?_)
  cases f with
  | next => exact wpAny_execs_nil q
  | ret v => exact q
  | brk => exact q
  | cont => exact q
theorem pst_set {i : Nat} {x : Str} {e : Expr} {te : TE} {pos' pos : Pos} (hN : X.N.Nodup) (hi : X.N[i]? = some x) (hx : Loc X.env.scope x) (he : PET X e te) (hs : swapsWith e (some (.Name x pos')) pos.line X.env = pure false := by rfl) (hf : X.fn x = true ∨ X.env.scope.names.lookup x = some .local := by first | exact .inl rfl | exact .inr rfl | assumption) :
    PST X (.Assign [.Name x pos'] e pos) (tAsg te (gName i)) := by
  intro pins s σ H D h0 I h
  refine wpAny_Assign_Name (thn (he pins s σ H _ h0 I h) fun v s1 ⟨y, H1, I1, r1, q1⟩ => ?_) hs
  exact store_ok I1 hN hi hx r1 (fun s2 I2 => ⟨_, H1, I2, q1⟩) hf
/-- o.replace(y, z) of two written texts -/
def tRepl (y z : Str) (to : TE) : TE := fun σ H Q => to σ H fun x H1 => ∃ a, x = .str a ∧ a.length + (a.length + 1) * z.length ≤ 16777216 ∧ Q (.str (Txt.replace a y z)) H1
theorem pet_repl {o : Expr} {to : TE} {y z : Str} {j0 j1 : Nat} {c0 c1 apos pos : Pos} (hyz : (y == z) = false) (ho : PE X o to)
    (hbase : attributeBase o "replace" X.env (eval o X.env) = eval o X.env := by rfl) (hline : (apos.endLine == pos.line) = true := by rfl) :
    PET X (.Call (.Attribute o "replace" apos) [.Constant (.str y) j0 c0, .Constant (.str z) j1 c1] [] pos) (tRepl y z to) := by
  intro pins s σ H Q h0 I h
  refine PySem.Call_method2 hbase rfl hline (wpAny_mono (PySem.wpAny_toks (ho.run pins s σ H _ I h)) (fun v s1 q => ?_) fun _ _ z => z.2)
  obtain ⟨hk, x, H1, I1, r1, a, rfl, hb, q1⟩ := q
  obtain ⟨t, rfl⟩ := _root_.id r1
  refine ⟨"str", _, F.plainAttrs_str, F.slot_str_replace, F.type_str_replace, typeIs_str _ _ _, (fun _ e => nomatch e), Calls.callWith_builtin rfl (Calls.evalArgs_plain (Calls.spliced_cons ?_))⟩
  refine Calls.Constant_str (Calls.spliced_cons (Calls.Constant_str (Calls.spliced_nil ?_)))
  have h1 : 1 ≤ s1.toks := Nat.le_trans h0 hk
  exact PySem.SC.replace (show s1.toks ≠ 0 by omega) (show s1.toks + 1 ≠ 0 by omega) (show s1.toks ≠ s1.toks + 1 by omega) hyz hb fun t' k => ⟨.str (Txt.replace a y z), H1, I1.tok k, ⟨t', rfl⟩, q1⟩
theorem pet_split {o e : Expr} {to te : TE} {apos pos : Pos} (ho : PET X o to) (he : PE X e te) (hs : starEach [e] X.env = [(false, eval e X.env)] := by rfl) (hbase : attributeBase o "split" X.env (eval o X.env) = eval o X.env := by rfl) (hline : (apos.endLine == pos.line) = true := by rfl) :
    PET X (.Call (.Attribute o "split" apos) [e] [] pos) (tM1 rSplit to te) := by
  intro pins s σ H Q h0 I h
  refine PySem.Call_method1 hbase hs hline (thn (ho pins s σ H _ h0 I h) fun v s1 ⟨x, H1, I1, r1, q1⟩ => ?_)
  obtain ⟨⟨a, rfl⟩, q1⟩ := q1
  obtain ⟨t, rfl⟩ := _root_.id r1
  refine ⟨"str", _, F.plainAttrs_str, F.slot_str_split, F.type_str_split, typeIs_str _ _ _, (fun _ e => nomatch e), Calls.callWith_builtin rfl (Calls.evalArgs_plain (Calls.spliced_cons ?_))⟩
  exact thn (he.run pins s1 σ H1 _ I1 q1) fun u s2 ⟨y, H2, I2, r2, q2⟩ => Calls.spliced_nil (mt_split pins s2 σ H2 _ [y] _ [u] Q I2 r1 (.cons r2 .nil) q2)
end
variable [Tabl]
def replD (y z : Str) : PD → R PD
  | .str a => if a.length + (a.length + 1) * z.length ≤ szN then .ok (.str (Txt.replace a y z)) else .stuck
  | _ => .stuck
theorem ed_repl {C : Cn} {to : TE} {fo : En → R PD} {y z : Str} (h : EdL C to fo) : EdS C (tRepl y z to) (d1 (replD y z) fo) := fun H0 ext reg en σ H rs Q w =>
  h.seq rs (W := WrS C (own ext reg) H Q) w (fun _ q => q) (fun q => q) fun x v H2 e2 r2 h2 w2 => by
    cases x with
    | str a =>
      unfold replD at w2
      dsimp only at w2
      split at w2
      · rename_i hl
        exact ⟨a, h2.str, by (have : szN = 1000000 := rfl); omega, w2 _ H2 e2 (.str _)⟩
      · exact w2.elim
    | _ => exact w2.elim
/-- len(set(texts)) -/
def lenU : PD → R PD
  | .list ds => match asStrs ds with
    | some ys => if ys.length < 2000 then .ok (.int (unlike ys ys.length : Nat)) else .stuck
    | none => .stuck
  | _ => .stuck
theorem ed_lenU {C : Cn} {ta : TE} {fa : En → R PD} (h : EdL C ta fa) : EdS C (tLenU C.K ta) (d1 lenU fa) := fun H0 ext reg en σ H rs Q w =>
  h.seq rs (W := WrS C (own ext reg) H Q) w (fun _ q => q) (fun q => q) fun x v H2 e2 r2 h2 w2 => by
    unfold lenU at w2
    split at w2
    · split at w2
      · rename_i ys ey
        split at w2
        · rename_i hl
          obtain ⟨p, vs, rfl, hp, hr⟩ := h2.lst fun a z => .inl z
          rw [hr.asStrs ey] at hp
          exact ⟨p, ys, rfl, SqL.of hp, hl, w2 _ H2 e2 (.int _)⟩
        · exact w2.elim
      · exact w2.elim
    · exact w2.elim
end Dn
namespace Dn
open PySem L2
theorem kps_dput {X : Cx} {o i value : Expr} {pos pos' : Pos} {td ty tv : TE} (hu : X.A.units + 64 < cLine) (ho : PE X o td) (hi : PE X i ty) (hv : PE X value tv) (hs : swapsWith value (some (.Subscript o i pos')) pos.line X.env = pure false := by rfl) :
    PS X (.Assign [.Subscript o i pos'] value pos) (sDPut td ty tv) := ps_dput (by omega) ho hi hv hs
end Dn

/-! What the printed denotations come to: rows for simp; texts as lists of codes. -/
namespace Dn
open PySem L2
variable [Tabl]
section
variable {fa fb fc : En → R PD} {ft fu : En → R Bool} {f g : En → R Fl} {fr : En → R (List PD)} {en : En} {d : PD} {i : Nat}
@[simp] theorem dVar_ap : dVar i en = (match en[i]? with
  | some (.sh d) => .ok d
  | some (.fz es) => .ok (.dict es)
  | _ => .stuck) := nrf rfl
@[simp] theorem dVarL_ap : dVarL i en = (match en[i]? with
  | some (.sh d) => .ok d
  | some (.ol ds) => .ok (.list ds)
  | some (.od es) => .ok (.dict es)
  | some (.fz es) => .ok (.dict es)
  | _ => .stuck) := nrf rfl
@[simp] theorem dLenR_ap : dLenR i en = (match en[i]? with
  | some (.rl ds) => .ok (.int ds.length)
  | _ => .stuck) := nrf rfl
@[simp] theorem dC_ap : dC d en = .ok d := nrf rfl
@[simp] theorem d2_ap {g : PD → PD → R PD} : d2 g fa fb en = (fa en).bind fun x => (fb en).bind fun y => g x y := nrf rfl
@[simp] theorem d1_ap {g : PD → R PD} : d1 g fa en = (fa en).bind g := nrf rfl
@[simp] theorem dN_ap {g : List PD → R PD} : dN g fr en = (fr en).bind g := nrf rfl
@[simp] theorem dCall_ap {F : List PD → R PD} : dCall F fr en = (fr en).bind F := nrf rfl
@[simp] theorem dNil_ap : dNil en = .ok [] := nrf rfl
@[simp] theorem dCons_ap : dCons fa fr en = (fa en).bind fun x => (fr en).bind fun r => .ok (x :: r) := nrf rfl
@[simp] theorem dTest_ap : dTest fa en = (fa en).bind asB := nrf rfl
@[simp] theorem asB_ap (b : Bool) : asB (.bool b) = .ok b := nrf rfl
@[simp] theorem dAnd_ap : dAnd ft fu en = (ft en).bind fun b => match b with
  | true => fu en
  | false => .ok false := nrf rfl
@[simp] theorem dOr_ap : dOr ft fu en = (ft en).bind fun b => match b with
  | true => .ok true
  | false => fu en := nrf rfl
@[simp] theorem dNot_ap : dNot ft en = (ft en).bind fun b => .ok (!b) := nrf rfl
@[simp] theorem dAndV_ap : dAndV fa fb en = (fa en).bind fun x => match x with
  | .bool true => fb en
  | .bool false => .ok (.bool false)
  | _ => .stuck := nrf rfl
@[simp] theorem dOrV_ap : dOrV fa fb en = (fa en).bind fun x => match x with
  | .bool true => .ok (.bool true)
  | .bool false => fb en
  | _ => .stuck := nrf rfl
@[simp] theorem notD_ap (b : Bool) : notD (.bool b) = .ok (.bool (!b)) := nrf rfl
@[simp] theorem dIf_ap : dIf ft fa fb en = (ft en).bind fun b => match b with
  | true => fa en
  | false => fb en := nrf rfl
@[simp] theorem dChain_ap {g g' : PD → PD → R PD} : dChain g g' fa fb fc en = (fa en).bind fun x => (fb en).bind fun y => (g x y).bind fun z => match z with
  | .bool true => (fc en).bind fun w => g' y w
  | .bool false => .ok (.bool false)
  | _ => .stuck := nrf rfl
@[simp] theorem dSl_ap {fl fh : En → R (Option Int)} : dSl fa fl fh en = (fa en).bind fun x => (fl en).bind fun l => (fh en).bind fun u => slD x l u := nrf rfl
@[simp] theorem dOno_ap : dOno en = .ok none := nrf rfl
@[simp] theorem dOso_ap : dOso fa en = (fa en).bind fun x => match x with
  | .int i => .ok (some i)
  | _ => .stuck := nrf rfl
@[simp] theorem dF_ap : dF fr en = (fr en).bind fun ds => .ok (.list ds) := nrf rfl
@[simp] theorem dIt_ap {g : PD → R (List PD)} : dIt g fa en = (fa en).bind g := nrf rfl
@[simp] theorem dItA_ap {g : List PD → R (List PD)} : dItA g fr en = (fr en).bind g := nrf rfl
@[simp] theorem dYes_ap : dYes en = .ok true := nrf rfl
@[simp] theorem dLst_ap : dLst fr en = (fr en).bind chk := nrf rfl
@[simp] theorem asL_ap (ds : List PD) : asL (.list ds) = .ok ds := nrf rfl
@[simp] theorem asT_ap (ds : List PD) : asT (.tuple ds) = .ok ds := nrf rfl
@[simp] theorem sNil_ap : sNil en = .ok (.nx en) := nrf rfl
@[simp] theorem sSeq_ap : sSeq f g en = (f en).bind fun x => match x with
  | .nx e => g e
  | y => .ok y := nrf rfl
@[simp] theorem sAsg_ap : sAsg i fa en = (fa en).bind fun d => .ok (.nx (en.set i (.sh d))) := nrf rfl
@[simp] theorem sAsgG_ap {gf : PD → En → R En} : sAsgG gf fa en = (fa en).bind fun d => (gf d en).noexc.bind fun e => .ok (.nx e) := nrf rfl
@[simp] theorem sAsgF_ap : sAsgF i fr en = (fr en).bind fun ds => if i < en.length then .ok (.nx (en.set i (.ol ds))) else .stuck := nrf rfl
@[simp] theorem sRet_ap : sRet fa en = (fa en).bind fun d => .ok (.rt d) := nrf rfl
@[simp] theorem sRetN_ap : sRetN en = .ok (.rt .none) := nrf rfl
@[simp] theorem sCont_ap : sCont en = .ok (.ct en) := nrf rfl
@[simp] theorem sBrk_ap : sBrk en = .ok (.bk en) := nrf rfl
@[simp] theorem sDrop_ap : sDrop fa en = (fa en).bind fun _ => .ok (.nx en) := nrf rfl
@[simp] theorem sIf_ap : sIf ft f g en = (ft en).bind fun b => match b with
  | true => f en
  | false => g en := nrf rfl
@[simp] theorem sRaise_ap {c : Str} : sRaise c en = .exc c := nrf rfl
@[simp] theorem sApp_ap : sApp i fa en = (match en[i]? with
  | some (.ol ds) => (fa en).bind fun d => if ds.length + 1 ≤ szN then .ok (.nx (en.set i (.ol (ds ++ [d])))) else .stuck
  | _ => .stuck) := nrf rfl
@[simp] theorem sExt_ap : sExt i fa en = (match en[i]? with
  | some (.ol ds) => (fa en).bind fun d => match d with
    | .list es => if ds.length + es.length ≤ szN then .ok (.nx (en.set i (.ol (ds ++ es)))) else .stuck
    | _ => .stuck
  | _ => .stuck) := nrf rfl
@[simp] theorem sPar_ap {j : Nat} : sPar i j fr en = (fr en).bind fun ds => match ds with
  | [x, y] => .ok (.nx ((en.set i (.sh x)).set j (.sh y)))
  | _ => .stuck := nrf rfl
@[simp] theorem sSh_ap : sSh i f en = f (sShare i en) := nrf rfl
@[simp] theorem sNx_ap : sNx f en = noXm (f en).noexc := nrf rfl
@[simp] theorem noXm_nx (e : En) : noXm (.ok (.nx e)) = .ok (.nx e) := nrf rfl
@[simp] theorem noXm_rt (d : PD) : noXm (.ok (.rt d)) = .ok (.rt d) := nrf rfl
@[simp] theorem noXm_rm (d : PD) (e : En) : noXm (.ok (.rm d e)) = .ok (.rm d e) := nrf rfl
@[simp] theorem noXm_rn (d : List PD) (e : En) : noXm (.ok (.rn d e)) = .ok (.rn d e) := nrf rfl
@[simp] theorem noXm_pr (i : Nat) (d : PD) (e : En) : noXm (.ok (.pr i d e)) = .ok (.pr i d e) := nrf rfl
@[simp] theorem noXm_bk (e : En) : noXm (.ok (.bk e)) = .ok (.bk e) := nrf rfl
@[simp] theorem noXm_ct (e : En) : noXm (.ok (.ct e)) = .ok (.ct e) := nrf rfl
@[simp] theorem sFor_ap {tg : PD → En → R En} : sFor fr tg f en = (fr en).bind fun ds => loopF tg f ds en := nrf rfl
@[simp] theorem sWhile_ap {n : Nat} : sWhile n ft f en = loopW ft f n en := nrf rfl
@[simp] theorem loopF_nil {tg : PD → En → R En} : loopF tg f [] en = .ok (.nx en) := nrf rfl
theorem loopF_cons {tg : PD → En → R En} {x : PD} {r : List PD} : loopF tg f (x :: r) en = (tg x en).noexc.bind fun e => (f e).bind fun fl => match fl with
    | .nx e2 => loopF tg f r e2
    | .ct e2 => loopF tg f r e2
    | .bk e2 => .ok (.nx e2)
    | .rt d => .ok (.rt d)
    | .rm d e2 => .ok (.rm d e2)
    | .rn d e2 => .ok (.rn d e2)
    | .xm d e2 => .ok (.xm d e2)
    | .pr i d e2 => .ok (.pr i d e2) := rfl
@[simp] theorem gN_ap {x : PD} : gN i x en = .ok (en.set i (.sh x)) := nrf rfl
@[simp] theorem gT_ap {n : Nat} {h : List PD → En → R En} {ds : List PD} : gT n h (.tuple ds) en = if ds.length = n then h ds en else .stuck := nrf rfl
@[simp] theorem gNl_ap : gNl [] en = .ok en := nrf rfl
@[simp] theorem gCn_ap {h : PD → En → R En} {k : List PD → En → R En} {x : PD} {r : List PD} : gCn h k (x :: r) en = (h x en).bind fun e => k r e := nrf rfl
@[simp] theorem addD_int (a b : Int) : addD (.int a) (.int b) = .ok (.int (a + b)) := nrf rfl
theorem addD_str (a b : Str) (h : a.length + b.length ≤ szN) : addD (.str a) (.str b) = .ok (.str (a ++ b)) := if_pos h
theorem addD_list (a b : List PD) (h : a.length + b.length ≤ szN) : addD (.list a) (.list b) = .ok (.list (a ++ b)) := if_pos h
@[simp] theorem subD_int (a b : Int) : subD (.int a) (.int b) = .ok (.int (a - b)) := nrf rfl
@[simp] theorem ltD_int (a b : Int) : ltD (.int a) (.int b) = .ok (.bool (decide (a < b))) := nrf rfl
@[simp] theorem leD_int (a b : Int) : leD (.int a) (.int b) = .ok (.bool (decide (a ≤ b))) := nrf rfl
@[simp] theorem gtD_int (a b : Int) : gtD (.int a) (.int b) = .ok (.bool (decide (b < a))) := nrf rfl
@[simp] theorem geD_int (a b : Int) : geD (.int a) (.int b) = .ok (.bool (decide (b ≤ a))) := nrf rfl
@[simp] theorem i20_int {h : Int → Int → PD} (a b : Int) : i20 h (.int a) (.int b) = .ok (h a b) := nrf rfl
theorem modD_int (a b : Int) (h : 0 < b) : modD (.int a) (.int b) = .ok (.int (a % b)) := if_pos (decide_eq_true h)
theorem fdivD_int (a b : Int) (h : 0 < b ∧ b.natAbs.log2 < 9000) : fdivD (.int a) (.int b) = .ok (.int (a / b)) := if_pos (decide_eq_true h)
theorem mulD_l (a b : Int) (h : -(2 ^ 64) < a ∧ a < 2 ^ 64) : mulD (.int a) (.int b) = .ok (.int (a * b)) := if_pos (by
  unfold mulC
  rw [decide_eq_true (p := (-(2 ^ 64) < a ∧ a < 2 ^ 64) ∨ (-(2 ^ 64) < b ∧ b < 2 ^ 64)) (.inl h)]
  rfl)
theorem mulD_r (a b : Int) (h : -(2 ^ 64) < b ∧ b < 2 ^ 64) : mulD (.int a) (.int b) = .ok (.int (a * b)) := if_pos (by
  unfold mulC
  rw [decide_eq_true (p := (-(2 ^ 64) < a ∧ a < 2 ^ 64) ∨ (-(2 ^ 64) < b ∧ b < 2 ^ 64)) (.inr h)]
  rfl)
theorem mulD_w (a b : Int) (h : a.natAbs < 2 ^ 1000 ∧ b.natAbs < 2 ^ 1000) : mulD (.int a) (.int b) = .ok (.int (a * b)) := if_pos (by
  unfold mulC
  have x := PySem.Flt.log2_lt_of (by decide) h.1
  have y := PySem.Flt.log2_lt_of (by decide) h.2
  rw [decide_eq_true (p := a.natAbs.log2 + b.natAbs.log2 < 1000000) (by omega)]
  exact Bool.or_true _)
@[simp] theorem lenD_list (ds : List PD) : lenD [.list ds] = .ok (.int ds.length) := nrf rfl
@[simp] theorem lenD_tup (ds : List PD) : lenD [.tuple ds] = .ok (.int ds.length) := nrf rfl
theorem lenD_str (z : Str) (h : z.length ≤ szN) : lenD [.str z] = .ok (.int z.length) := if_pos h
@[simp] theorem intD_bool (b : Bool) : intD [.bool b] = .ok (.int (if b then 1 else 0)) := nrf rfl
@[simp] theorem intD_int (b : Int) : intD [.int b] = .ok (.int b) := nrf rfl
@[simp] theorem absD_int (i : Int) : absD [.int i] = .ok (.int (if i < 0 then -i else i)) := nrf rfl
@[simp] theorem max2D_int (i j : Int) : max2D [.int i, .int j] = .ok (.int (if j > i then j else i)) := nrf rfl
@[simp] theorem minD_int (i j : Int) : minD [.int i, .int j] = .ok (.int (if j < i then j else i)) := nrf rfl
@[simp] theorem negD_int (i : Int) : negD (.int i) = .ok (.int (-i)) := nrf rfl
@[simp] theorem isiD_ap {h : PD → Bool} {x : PD} : isiD h x = .ok (.bool (h x)) := nrf rfl
theorem mkT_ok (ds : List PD) (h : ds.length ≤ szN) : mkT ds = .ok (.tuple ds) := if_pos h
theorem mkL_ok (ds : List PD) (h : ds.length ≤ szN) : mkL ds = .ok (.list ds) := if_pos h
theorem chk_ok (ds : List PD) (h : ds.length ≤ szN) : chk ds = .ok ds := if_pos h
@[simp] theorem mkT_2 (a b : PD) : mkT [a, b] = .ok (.tuple [a, b]) := mkT_ok _ (by show 2 ≤ szN; decide)
@[simp] theorem mkT_3 (a b c : PD) : mkT [a, b, c] = .ok (.tuple [a, b, c]) := mkT_ok _ (by show 3 ≤ szN; decide)
@[simp] theorem mkL_0 : mkL [] = .ok (.list []) := mkL_ok _ (by show 0 ≤ szN; decide)
@[simp] theorem mkL_1 (a : PD) : mkL [a] = .ok (.list [a]) := mkL_ok _ (by show 1 ≤ szN; decide)
@[simp] theorem mkL_2 (a b : PD) : mkL [a, b] = .ok (.list [a, b]) := mkL_ok _ (by show 2 ≤ szN; decide)
@[simp] theorem mkL_3 (a b c : PD) : mkL [a, b, c] = .ok (.list [a, b, c]) := mkL_ok _ (by show 3 ≤ szN; decide)
@[simp] theorem mkL_5 (a b c d e : PD) : mkL [a, b, c, d, e] = .ok (.list [a, b, c, d, e]) := mkL_ok _ (by show 5 ≤ szN; decide)
@[simp] theorem chk_0 : chk [] = .ok [] := chk_ok _ (by show 0 ≤ szN; decide)
@[simp] theorem slD_list (ds : List PD) (l h : Option Int) : slD (.list ds) l h = .ok (.list (cutD ds l h)) := nrf rfl
@[simp] theorem revD_list (ds : List PD) : revD (.list ds) = .ok (.list ds.reverse) := nrf rfl
theorem revD_str (z : Str) (h : z.length ≤ szN) : revD (.str z) = .ok (.str (revS z)) := if_pos h
theorem ixD_list (ds : List PD) (i : Int) (d : PD) (h : atI ds i = some d) : ixD (.list ds) (.int i) = .ok d := by
  show (match atI ds i with | some d => R.ok d | none => .stuck) = _
  rw [h]
theorem ixD_tup (ds : List PD) (i : Int) (d : PD) (h : atI ds i = some d) : ixD (.tuple ds) (.int i) = .ok d := by
  show (match atI ds i with | some d => R.ok d | none => .stuck) = _
  rw [h]
@[simp] theorem ixD_t20 (a b : PD) : ixD (.tuple [a, b]) (.int 0) = .ok a := nrf rfl
@[simp] theorem ixD_t21 (a b : PD) : ixD (.tuple [a, b]) (.int 1) = .ok b := nrf rfl
@[simp] theorem eqD_int (a b : Int) : eqD (.int a) (.int b) = .ok (.bool (decide (a = b))) := nrf rfl
@[simp] theorem eqD_bool (a b : Bool) : eqD (.bool a) (.bool b) = .ok (.bool (decide (a = b))) := nrf rfl
@[simp] theorem eqD_str (a b : Str) : eqD (.str a) (.str b) = .ok (.bool (decide (a = b))) := nrf rfl
@[simp] theorem neD_int (a b : Int) : neD (.int a) (.int b) = .ok (.bool (!decide (a = b))) := nrf rfl
@[simp] theorem neD_bool (a b : Bool) : neD (.bool a) (.bool b) = .ok (.bool (!decide (a = b))) := nrf rfl
@[simp] theorem neD_str (a b : Str) : neD (.str a) (.str b) = .ok (.bool (!decide (a = b))) := nrf rfl
end
theorem atI_nat' {α : Type} (xs : List α) (k : Nat) : atI xs (k : Int) = xs[k]? := by
  unfold atI ixN
  rw [if_pos (by omega)]
  by_cases h : k < xs.length
  · rw [if_pos (by omega)]
    simp
  · rw [if_neg (by omega), List.getElem?_eq_none (by omega)]
    rfl
theorem atI_last' {α : Type} (xs : List α) (h : xs ≠ []) : atI xs (-1) = xs.getLast? := by
  unfold atI ixN
  have : 0 < xs.length := List.length_pos_iff.mpr h
  rw [if_neg (by omega), if_pos (by omega), List.getLast?_eq_getElem?]
  show xs[_]? = _
  congr 1
  omega
/-! ### texts as lists of codes -/
def st (l : List Nat) : Str := ⟨l.toArray⟩
theorem st_len (l : List Nat) : (st l).length = l.length := by
  show l.toArray.size = _
  simp
theorem st_app (a b : List Nat) : st a ++ st b = st (a ++ b) := by
  show (⟨a.toArray ++ b.toArray⟩ : Str) = _
  unfold st
  simp
theorem st_inj {a b : List Nat} (h : st a = st b) : a = b := by
  have h2 := congrArg (fun z : Str => z.cps.toList) h
  simpa [st] using h2
theorem st_rev (a : List Nat) : revS (st a) = st a.reverse := by
  unfold revS st
  simp
/-! ### loops in general -/
theorem loopF_inv {tg : PD → En → R En} {f : En → R Fl} (P : List PD → En → Prop) (step : ∀ x r en, P (x :: r) en → ∃ en', loopF tg f (x :: r) en = loopF tg f r en' ∧ P r en') :
    ∀ (l : List PD) (en : En), P l en → ∃ en', loopF tg f l en = .ok (.nx en') ∧ P [] en'
  | [], en, h => ⟨en, rfl, h⟩
  | x :: r, en, h => by
    obtain ⟨e1, h1, h2⟩ := step x r en h
    obtain ⟨e2, h3, h4⟩ := loopF_inv P step r e1 h2
    exact ⟨e2, h1.trans h3, h4⟩
/-- each turn leaves the slots it needs, whatever the others -/
theorem lcL_map {tg : PD → En → R En} {fe : En → R PD} {en : En} {α : Type} (enc : α → PD) (F : α → PD) (h : ∀ a : α, ∃ e, tg (enc a) en = .ok e ∧ fe e = .ok (F a)) : ∀ l : List α, lcL tg dYes fe en (l.map enc) = .ok (l.map F)
  | [] => rfl
  | a :: r => by
    obtain ⟨e, h1, h2⟩ := h a
    show (tg (enc a) en).bind _ = _
    rw [h1]
    simp only [R.bind_ok, dYes_ap]
    rw [h2]
    simp only [R.bind_ok]
    rw [lcL_map enc F h r]
    rfl
theorem lcL_mapM {tg : PD → En → R En} {fe : En → R PD} {en : En} {α : Type} (enc : α → PD) (F : α → PD) : ∀ l : List α, (∀ a ∈ l, ∃ e, tg (enc a) en = .ok e ∧ fe e = .ok (F a)) → lcL tg dYes fe en (l.map enc) = .ok (l.map F)
  | [], _ => rfl
  | a :: r, h => by
    obtain ⟨e, h1, h2⟩ := h a List.mem_cons_self
    show (tg (enc a) en).bind _ = _
    rw [h1]
    simp only [R.bind_ok, dYes_ap]
    rw [h2]
    simp only [R.bind_ok]
    rw [lcL_mapM enc F r fun a ha => h a (List.mem_cons_of_mem _ ha)]
    rfl
end Dn

/-! rows for simp of the later words; split, join, replace of texts as lists of codes. -/
namespace Dn
open PySem L2
variable [Tabl]
section
variable {fa fb fo fe : En → R PD} {f : En → R Fl} {fr : En → R (List PD)} {en : En} {i : Nat} {fx : En → R (PD × En)} {fp : En → En → R En}
@[simp] theorem dLk_ap {β : Type} {f : En → R β} : dLk i f en = (match en[i]? with
  | some (.sh (.dict es)) => (f (en.set i (.fz es))).noexc
  | some (.fz _) => (f en).noexc
  | _ => .stuck) := nrf rfl
@[simp] theorem sLk_ap : sLk i f en = (match en[i]? with
  | some (.sh (.dict es)) => (f (en.set i (.fz es))).noexc.bind (unFl i)
  | _ => .stuck) := nrf rfl
@[simp] theorem dKeys_ap : dKeys i en = (match en[i]? with
  | some (.fz es) => .ok (es.map (·.1))
  | _ => .stuck) := nrf rfl
@[simp] theorem emptyD_ap (es : List (PD × PD)) : emptyD (.dict es) = .ok (.bool es.isEmpty) := nrf rfl
@[simp] theorem dM1_ap {β : Type} {g : PD → PD → R β} : dM1 g fo fe en = (fo en).bind fun x => match x with
  | .str a => (fe en).bind fun y => g (.str a) y
  | _ => .stuck := nrf rfl
@[simp] theorem dNF_ap {g : List PD → R (List PD)} : dNF g fr en = (fr en).bind g := nrf rfl
@[simp] theorem enumT_ap (z : Str) : enumT [.str z] = .ok (enumFrom 0 (signL z)) := nrf rfl
@[simp] theorem pNil_ap {e : En} : pNil en e = .ok e := nrf rfl
@[simp] theorem pS_ap {e : En} : pS i fa fp en e = (fa en).bind fun d => fp en (e.set i (.sh d)) := nrf rfl
theorem pF_ap {e : En} : pF i fr fp en e = (fr en).bind fun ds => if i < e.length then fp en (e.set i (.ol ds)) else .stuck := rfl
theorem pD_ap {e : En} : pD i fp en e = if i < e.length then fp en (e.set i (.od [])) else .stuck := rfl
@[simp] theorem sParM_ap : sParM fp en = (fp en en).bind fun e => .ok (.nx e) := nrf rfl
@[simp] theorem sAsgD_ap : sAsgD i en = if i < en.length then .ok (.nx (en.set i (.od []))) else .stuck := nrf rfl
@[simp] theorem eS_ap : eS fa en = (fa en).bind fun d => .ok (d, en) := nrf rfl
theorem ePop_ap : ePop i fa en = (match en[i]? with
  | some (.ol ds) => (fa en).bind fun k => match k with
    | .int j => if -(2 ^ 63) ≤ j ∧ j < 2 ^ 63 then match seqIndex? j ds.length with
      | some n => match ds[n]? with
        | some d => .ok (d, en.set i (.ol (ds.eraseIdx n)))
        | none => .stuck
      | none => .stuck
      else .stuck
    | _ => .stuck
  | _ => .stuck) := rfl
@[simp] theorem eCall_ap {F : List PD → R PD} : eCall F fx en = (fx en).bind fun p => (F [p.1]).bind fun r => .ok (r, p.2) := nrf rfl
@[simp] theorem sAsgE_ap : sAsgE i fx en = (fx en).bind fun p => .ok (.nx (p.2.set i (.sh p.1))) := nrf rfl
@[simp] theorem sDropE_ap : sDropE fx en = (fx en).bind fun p => .ok (.nx p.2) := nrf rfl
theorem sPut_ap : sPut i fx fa en = (match en[i]? with
  | some (.od _) => (fa en).bind fun v => (fx en).bind fun p => match p.2[i]?, kOf p.1 with
    | some (.od es), some k => if es.length + 1 ≤ szN then .ok (.nx (p.2.set i (.od (putD es k v)))) else .stuck
    | _, _ => .stuck
  | _ => .stuck) := rfl
end
/-! ### split -/
def spGo (sep : List Nat) : List Nat → Nat → List Nat → List (List Nat)
  | [], _, w => [w]
  | c :: r, 0, w => if (c :: r).take sep.length = sep then w :: spGo sep r (sep.length - 1) [] else spGo sep r 0 (w ++ [c])
  | _ :: r, k + 1, w => spGo sep r k w
def jn (z : List Nat) : List (List Nat) → List Nat
  | [] => []
  | [x] => x
  | x :: y :: r => x ++ z ++ jn z (y :: r)
def occL (sep : List Nat) : List Nat → Nat → Nat → List Nat
  | [], _, _ => []
  | c :: r, i, free => if free ≤ i ∧ (c :: r).take sep.length = sep then i :: occL sep r (i + 1) (i + sep.length) else occL sep r (i + 1) free
open PySem.StrLaws PySem.Builtin.Str
theorem occ_run (sep full : List Nat) (hs : sep ≠ []) : ∀ (l : List Nat) (i : Nat) (found : Array Nat) (free : Nat), l = full.drop i → i ≤ full.length → found.size ≤ i →
    (forIn (List.range' i (l.length + 1)) (found, free) (occBody (st full) (st sep) full.length (full.length + 1))).run.fst.toList = found.toList ++ occL sep l i free
  | [], i, found, free, hl, hi, hf => by
    have hlen : full.length = i := by
      have := congrArg List.length hl
      simp at this
      omega
    have hm : 0 < sep.length := List.length_pos_iff.mpr hs
    show (forIn [i] (found, free) (occBody (st full) (st sep) full.length (full.length + 1))).run.fst.toList = found.toList ++ []
    rw [List.forIn_cons]
    unfold occBody
    rw [if_neg (by rw [st_len]; omega)]
    simp
  | c :: r, i, found, free, hl, hi, hf => by
    have hlt : i < full.length := by
      have := congrArg List.length hl
      simp at this
      omega
    have hr : r = full.drop (i + 1) := by
      rw [List.drop_eq_getElem_cons hlt] at hl
      exact (List.cons.inj hl).2
    have e : List.range' i ((c :: r).length + 1) = i :: List.range' (i + 1) (r.length + 1) := rfl
    rw [e, List.forIn_cons]
    have hsub : subAt (st full) (st sep) i = true ↔ (c :: r).take sep.length = sep := by
      rw [subAt_eq, st_len, hl]
      show (((full.drop i).take sep.length == sep) = true) ↔ _
      rw [beq_iff_eq]
    have hfit : (c :: r).take sep.length = sep → i + sep.length ≤ full.length := fun h => by
      have h1 := congrArg List.length h
      rw [List.length_take] at h1
      have h2 := congrArg List.length hl
      rw [List.length_drop] at h2
      omega
    unfold occL
    unfold occBody
    by_cases hc : free ≤ i ∧ (c :: r).take sep.length = sep
    · rw [if_pos hc, if_pos ⟨⟨⟨by dsimp only; omega, hc.1⟩, by rw [st_len]; exact hfit hc.2⟩, hsub.mpr hc.2⟩]
      show (forIn (List.range' (i + 1) (r.length + 1)) (found.push i, i + (st sep).length) (occBody (st full) (st sep) full.length (full.length + 1))).run.fst.toList = _
      rw [st_len, occ_run sep full hs r (i + 1) (found.push i) (i + sep.length) hr (by omega) (by simp; omega)]
      simp
    · rw [if_neg hc, if_neg fun h => hc ⟨h.1.1.2, hsub.mp h.2⟩]
      exact occ_run sep full hs r (i + 1) found free hr (by omega) (by omega)
theorem parts_go (sep full : List Nat) (hs : sep ≠ []) : ∀ (l : List Nat) (i a : Nat), l = full.drop i → i ≤ full.length → 
    partsFrom (st full) sep.length a (occL sep l i a) = (spGo sep l (a - i) ((full.drop a).take (i - a))).map st
  | [], i, a, hl, hi => by
    have hlen : full.length = i := by
      have := congrArg List.length hl
      simp at this
      omega
    show [strSub (st full) a (st full).length] = [st _]
    congr 1
    apply Str.ext'
    apply Array.toList_inj.mp
    rw [strSub_toList, st_len, hlen]
    rfl
  | c :: r, i, a, hl, hi => by
    have hlt : i < full.length := by
      have := congrArg List.length hl
      simp at this
      omega
    have hm : 0 < sep.length := List.length_pos_iff.mpr hs
    have hl' := hl
    rw [List.drop_eq_getElem_cons hlt] at hl'
    obtain ⟨hc1, hr⟩ := List.cons.inj hl'
    unfold occL
    by_cases ha : a ≤ i
    · have ea : a - i = 0 := by omega
      rw [ea]
      unfold spGo
      by_cases ht : (c :: r).take sep.length = sep
      · rw [if_pos ⟨ha, ht⟩, if_pos ht]
        show strSub (st full) a i :: partsFrom (st full) sep.length (i + sep.length) _ = _
        rw [parts_go sep full hs r (i + 1) (i + sep.length) hr (by omega), List.map_cons]
        have e1 : i + sep.length - (i + 1) = sep.length - 1 := by omega
        have e2 : i + 1 - (i + sep.length) = 0 := by omega
        rw [e1, e2, List.take_zero]
        congr 1
        apply Str.ext'
        apply Array.toList_inj.mp
        rw [strSub_toList]
        rfl
      · rw [if_neg fun h => ht h.2, if_neg ht, parts_go sep full hs r (i + 1) a hr (by omega)]
        have e1 : a - (i + 1) = 0 := by omega
        rw [e1]
        congr 2
        have e2 : i + 1 - a = (i - a) + 1 := by omega
        rw [e2, List.take_succ, List.getElem?_drop, show a + (i - a) = i by omega, List.getElem?_eq_getElem hlt, ← hc1]
        rfl
    · rw [if_neg fun h => ha h.1, parts_go sep full hs r (i + 1) a hr (by omega)]
      have e1 : a - i = (a - (i + 1)) + 1 := by omega
      have e2 : i + 1 - a = 0 := by omega
      have e3 : i - a = 0 := by omega
      rw [e1, e2, e3]
      rfl
theorem occ_st (sep l : List Nat) (hs : sep ≠ []) : occurrences (st l) (st sep) 0 (st l).length ((st l).length + 1) = occL sep l 0 0 := by
  rw [occ_eq, st_len]
  have := occ_run sep l hs l 0 #[] 0 rfl (Nat.zero_le _) (Nat.zero_le _)
  simpa using this
theorem parts_st (sep l : List Nat) (hs : sep ≠ []) : partsBetween (st l) (occL sep l 0 0) (st sep).length = (spGo sep l 0 []).map st := by
  rw [partsBetween_eq, st_len, parts_go sep l hs l 0 0 rfl (Nat.zero_le _)]
  simp
theorem sub_st (l : List Nat) : strSub (st l) 0 (st l).length = st l := by
  apply Str.ext'
  apply Array.toList_inj.mp
  rw [strSub_toList, st_len]
  show (l.drop 0).take (l.length - 0) = l
  simp
theorem spGo_short (sep : List Nat) : ∀ (l w : List Nat), l.length < sep.length → spGo sep l 0 w = [w ++ l]
  | [], w, _ => by simp [spGo]
  | c :: r, w, h => by
    unfold spGo
    rw [if_neg, spGo_short sep r (w ++ [c]) (by simp at h; omega)]
    · simp
    · intro e
      have := congrArg List.length e
      rw [List.length_take] at this
      omega
theorem kind_st (l : List Nat) (h : l.all (· < 256) = true) : Builtin.Str.strKind (st l) = 1 := by
  unfold Builtin.Str.strKind st
  rw [if_pos]
  simpa using h
theorem kind_pos (x : Str) : 1 ≤ Builtin.Str.strKind x := by
  unfold Builtin.Str.strKind
  split
  · exact Nat.le_refl _
  · split <;> decide
theorem split_st (sep l : List Nat) (hs : sep ≠ []) (hk : sep.all (· < 256) = true) : Txt.split (st l) (st sep) = (spGo sep l 0 []).map st := by
  unfold Txt.split
  by_cases hl : l.length < sep.length
  · rw [if_pos (by rw [st_len, st_len, decide_eq_true hl]; rfl), spGo_short sep l [] hl]
    rfl
  · rw [if_neg (by
      rw [st_len, st_len, decide_eq_false hl, kind_st sep hk, decide_eq_false (by have := kind_pos (st l); omega)]
      decide), occ_st sep l hs]
    have hp := parts_st sep l hs
    split
    · rename_i h
      rw [List.isEmpty_iff] at h
      rw [h] at hp
      rw [← hp, partsBetween_eq]
      show [st l] = [strSub (st l) 0 (st l).length]
      rw [sub_st]
    · exact hp
theorem join_st (z : List Nat) : ∀ W : List (List Nat), Str.join (st z) (W.map st) = st (jn z W)
  | [] => rfl
  | [x] => rfl
  | x :: y :: r => by
    show st x ++ st z ++ Str.join (st z) ((y :: r).map st) = _
    rw [join_st z (y :: r), st_app, st_app]
    rfl
theorem tjoin_st (z : List Nat) (W : List (List Nat)) : Txt.join (st z) (W.map st) = st (jn z W) := by
  unfold Txt.join
  rw [glued_eq_join, join_st]
theorem replace_st (y z l : List Nat) (hs : y ≠ []) : Txt.replace (st l) (st y) (st z) = st (jn z (spGo y l 0 [])) := by
  unfold Txt.replace
  rw [occ_st y l hs]
  have hp := parts_st y l hs
  have hy : ((st y).length == 0) = false := by
    rw [st_len]
    have := List.length_pos_iff.mpr hs
    simp
    exact hs
  split
  · rename_i h
    rw [hy, Bool.false_and, Bool.or_false, List.isEmpty_iff] at h
    rw [h, partsBetween_eq] at hp
    have e : [strSub (st l) 0 (st l).length] = (spGo y l 0 []).map st := hp
    rw [sub_st] at e
    match hq : spGo y l 0 [], e with
    | [w], e =>
      simp only [List.map_cons, List.map_nil, List.cons.injEq, and_true] at e
      rw [e]
      rfl
    | [], e => simp at e
    | _ :: _ :: _, e => simp at e
  · rw [hp, glued_eq_join, join_st]
/-! words without the blank -/
theorem sp1_word (c : Nat) : ∀ (w r u : List Nat), c ∉ w → spGo [c] (w ++ r) 0 u = spGo [c] r 0 (u ++ w)
  | [], r, u, _ => by simp
  | a :: w, r, u, h => by
    show (if (a :: (w ++ r)).take [c].length = [c] then u :: spGo [c] (w ++ r) 0 [] else spGo [c] (w ++ r) 0 (u ++ [a])) = _
    rw [if_neg, sp1_word c w r (u ++ [a]) fun z => h (List.mem_cons_of_mem _ z)]
    · simp
    · intro e
      have : a = c := by simpa using e
      exact h (by rw [this]; exact List.mem_cons_self)
theorem sp1_sep (c : Nat) (r u : List Nat) : spGo [c] (c :: r) 0 u = u :: spGo [c] r 0 [] := by
  show (if _ then _ else _) = _
  rw [if_pos (by simp)]
  rfl
theorem sp1_jn (c : Nat) : ∀ (W : List (List Nat)), W ≠ [] → (∀ w ∈ W, c ∉ w) → spGo [c] (jn [c] W) 0 [] = W
  | [], h, _ => absurd rfl h
  | [w], _, h => by
    have := sp1_word c w [] [] (h w List.mem_cons_self)
    rw [List.append_nil] at this
    show spGo [c] w 0 [] = _
    rw [this]
    rfl
  | w :: v :: r, _, h => by
    show spGo [c] (w ++ [c] ++ jn [c] (v :: r)) 0 [] = _
    rw [List.append_assoc, sp1_word c w _ [] (h w List.mem_cons_self)]
    show spGo [c] (c :: jn [c] (v :: r)) 0 ([] ++ w) = _
    rw [sp1_sep, sp1_jn c (v :: r) (List.cons_ne_nil _ _) fun x hx => h x (List.mem_cons_of_mem _ hx)]
    rfl
/-! words without the stroke, a stroke between blanks between them -/
theorem sp3_word (a b : Nat) (hab : a ≠ b) : ∀ (w r u : List Nat), b ∉ w → (r = [] ∨ ∃ t, r = a :: b :: a :: t) → spGo [a, b, a] (w ++ r) 0 u = spGo [a, b, a] r 0 (u ++ w)
  | [], r, u, _, _ => by simp
  | c :: w, r, u, h, hr => by
    show (if (c :: (w ++ r)).take [a, b, a].length = [a, b, a] then u :: spGo [a, b, a] (w ++ r) 2 [] else spGo [a, b, a] (w ++ r) 0 (u ++ [c])) = _
    rw [if_neg, sp3_word a b hab w r (u ++ [c]) (fun z => h (List.mem_cons_of_mem _ z)) hr]
    · simp
    · intro e
      cases w with
      | nil =>
        rcases hr with rfl | ⟨t, rfl⟩
        · simp at e
        · simp at e
          exact hab e.2.1
      | cons d w =>
        simp at e
        exact h (by rw [← e.2.1]; simp)
theorem sp3_jn (a b : Nat) (hab : a ≠ b) : ∀ (W : List (List Nat)), W ≠ [] → (∀ w ∈ W, b ∉ w) → spGo [a, b, a] (jn [a, b, a] W) 0 [] = W
  | [], h, _ => absurd rfl h
  | [w], _, h => by
    have := sp3_word a b hab w [] [] (h w List.mem_cons_self) (.inl rfl)
    rw [List.append_nil] at this
    show spGo [a, b, a] w 0 [] = _
    rw [this]
    rfl
  | w :: v :: r, _, h => by
    show spGo [a, b, a] (w ++ [a, b, a] ++ jn [a, b, a] (v :: r)) 0 [] = _
    rw [List.append_assoc, sp3_word a b hab w ([a, b, a] ++ jn [a, b, a] (v :: r)) [] (h w List.mem_cons_self) (.inr ⟨_, rfl⟩)]
    show (if _ then _ else _) = _
    rw [if_pos (by simp)]
    show ([] ++ w) :: spGo [a, b, a] (jn [a, b, a] (v :: r)) 0 [] = _
    rw [sp3_jn a b hab (v :: r) (List.cons_ne_nil _ _) fun x hx => h x (List.mem_cons_of_mem _ hx)]
    rfl
theorem jn_len (z : List Nat) : ∀ W : List (List Nat), (jn z W).length ≤ (W.map List.length).sum + W.length * z.length
  | [] => by simp [jn]
  | [x] => by simp [jn]
  | x :: y :: r => by
    have ih := jn_len z (y :: r)
    show (x ++ z ++ jn z (y :: r)).length ≤ _
    simp only [List.length_append, List.map_cons, List.sum_cons, List.length_cons, Nat.succ_mul] at ih ⊢
    omega
theorem jn_cons (z x : List Nat) {W : List (List Nat)} (h : W ≠ []) : jn z (x :: W) = x ++ z ++ jn z W := by
  cases W with
  | nil => exact absurd rfl h
  | cons y r => rfl
theorem jn_app (z : List Nat) : ∀ (W V : List (List Nat)), W ≠ [] → V ≠ [] → jn z (W ++ V) = jn z W ++ z ++ jn z V
  | [], V, h, _ => absurd rfl h
  | [x], V, _, h => by
    show jn z (x :: V) = _
    rw [jn_cons z x h]
    rfl
  | x :: y :: r, V, _, h => by
    show jn z (x :: ((y :: r) ++ V)) = _
    rw [jn_cons z x (by simp), jn_app z (y :: r) V (List.cons_ne_nil _ _) h]
    show _ = x ++ z ++ jn z (y :: r) ++ z ++ jn z V
    simp
theorem splitD_st (l sep : List Nat) (hs : sep ≠ []) (hk : sep.all (· < 256) = true) (hl : l.length + 2 ≤ szN) : splitD (.str (st l)) (.str (st sep)) = .ok ((spGo sep l 0 []).map fun w => .str (st w)) := by
  have : 1 ≤ sep.length := List.length_pos_iff.mpr hs
  show (if 1 ≤ (st sep).length ∧ (st l).length + 2 ≤ szN then R.ok ((Txt.split (st l) (st sep)).map PyData.str) else .stuck) = _
  rw [if_pos (by rw [st_len, st_len]; exact ⟨this, hl⟩), split_st sep l hs hk, List.map_map]
  rfl
theorem joinD_st {α : Type} (z : List Nat) (f : α → List Nat) (W : List α) (h : (W.map fun a => (f a).length).sum + W.length * z.length ≤ szN) : joinD (.str (st z)) (.list (W.map fun a => .str (st (f a)))) = .ok (.str (st (jn z (W.map f)))) := by
  have e : W.map (fun a => PyData.str (st (f a))) = ((W.map f).map st).map PyData.str := by rw [List.map_map, List.map_map]; rfl
  rw [e]
  show (match asStrs (((W.map f).map st).map PyData.str) with
    | some ys => if (ys.map fun x : Str => x.length).sum + ys.length * (st z).length ≤ szN then R.ok (PyData.str (Txt.join (st z) ys)) else .stuck
    | none => .stuck) = _
  rw [asStrs_map]
  dsimp only
  rw [if_pos, tjoin_st]
  rw [st_len, List.map_map, List.map_map, List.length_map, List.length_map]
  have e2 : (fun a => (f a).length) = ((fun x : Str => x.length) ∘ st) ∘ f := by
    funext a
    exact (st_len (f a)).symm
  rw [e2] at h
  exact h
theorem replD_st (y z l : List Nat) (hs : y ≠ []) (h : l.length + (l.length + 1) * z.length ≤ szN) : replD (st y) (st z) (.str (st l)) = .ok (.str (st (jn z (spGo y l 0 [])))) := by
  show (if (st l).length + ((st l).length + 1) * (st z).length ≤ szN then R.ok (PyData.str (Txt.replace (st l) (st y) (st z))) else .stuck) = _
  rw [st_len, st_len, if_pos h, replace_st y z l hs]
end Dn

/-! arithmetic with bounds; == of a thing with itself; literal texts. -/
namespace Dn
open PySem L2
variable [Tabl]
theorem log2_lt' {b : Int} (h : b < 2 ^ 62) (h0 : 0 < b) : b.natAbs.log2 < 9000 := by
  have : b.natAbs < 2 ^ 62 := by omega
  have := PySem.Flt.log2_lt_of (by decide) this
  omega
theorem fdivD_sm (a b : Int) (h0 : 0 < b) (h : b < 2 ^ 62) : fdivD (.int a) (.int b) = .ok (.int (a / b)) := fdivD_int a b ⟨h0, log2_lt' h h0⟩
theorem mulD_sl (a b : Int) (h0 : -(2 ^ 64) < a) (h : a < 2 ^ 64) : mulD (.int a) (.int b) = .ok (.int (a * b)) := mulD_l a b ⟨h0, h⟩
theorem mulD_sr (a b : Int) (h0 : -(2 ^ 64) < b) (h : b < 2 ^ 64) : mulD (.int a) (.int b) = .ok (.int (a * b)) := mulD_r a b ⟨h0, h⟩
theorem mulD_rep (xs : List PD) (k : Int) (h0 : -(2 ^ 63) ≤ k) (h : k < 2 ^ 63) (hl : xs.length * k.toNat ≤ szN) : mulD (.list xs) (.int k) = .ok (.list (List.replicate k.toNat xs).flatten) := if_pos ⟨h0, h, hl⟩
@[simp] theorem isOwn_no : isOwn .no = false := nrf rfl
@[simp] theorem isOwn_sh (d : PD) : isOwn (.sh d) = false := nrf rfl
@[simp] theorem isOwn_rl (d : List PD) : isOwn (.rl d) = false := nrf rfl
@[simp] theorem isOwn_fz (d : List (PD × PD)) : isOwn (.fz d) = false := nrf rfl
@[simp] theorem isOwn_ol (d : List PD) : isOwn (.ol d) = true := nrf rfl
@[simp] theorem isOwn_od (d : List (PD × PD)) : isOwn (.od d) = true := nrf rfl
theorem szN_eq : szN = 1000000 := rfl
theorem addD_st (a b : List Nat) (h : a.length + b.length ≤ 1000000) : addD (.str (st a)) (.str (st b)) = .ok (.str (st (a ++ b))) := by
  rw [addD_str _ _ (by rw [st_len, st_len]; exact h), st_app]
theorem addD_li (a b : List PD) (h : a.length + b.length ≤ 1000000) : addD (.list a) (.list b) = .ok (.list (a ++ b)) := addD_list a b h
theorem lenD_st (a : List Nat) (h : a.length ≤ 1000000) : lenD [.str (st a)] = .ok (.int a.length) := by
  rw [lenD_str _ (by rw [st_len]; exact h), st_len]
theorem st_eq (a b : List Nat) : (st a = st b) = (a = b) := propext ⟨st_inj, fun h => by rw [h]⟩
theorem st_rec (z : Str) : z = st z.cps.toList := rfl
theorem s_empty : ("" : Str) = st [] := by decide +kernel
theorem s_blank : (" " : Str) = st [32] := by decide +kernel
theorem s_stroke : (" / " : Str) = st [32, 47, 32] := by decide +kernel
theorem s_slash : ("/" : Str) = st [47] := by decide +kernel
theorem s_dot : ("." : Str) = st [46] := by decide +kernel
theorem s_dash : ("-" : Str) = st [45] := by decide +kernel
theorem s_unk : ("#" : Str) = st [35] := by decide +kernel
theorem s_dd : (".-" : Str) = st [46, 45] := by decide +kernel
theorem s_da : ("-." : Str) = st [45, 46] := by decide +kernel
theorem sg_st (c : Nat) : (⟨#[c]⟩ : Str) = st [c] := rfl
/-- data that may be compared -/
def Shp (n : Nat) (d : PD) : Prop := d.canLay0 = true ∧ d.depth ≤ n
theorem Shp.none (n : Nat) : Shp n .none := ⟨rfl, Nat.zero_le _⟩
theorem Shp.bool (n : Nat) (b : Bool) : Shp n (.bool b) := ⟨rfl, Nat.zero_le _⟩
theorem Shp.int (n : Nat) (i : Int) : Shp n (.int i) := ⟨rfl, Nat.zero_le _⟩
theorem lay_all : ∀ (ds : List PD), (∀ d ∈ ds, d.canLay0 = true) → PyData.canLayAll0 ds = true
  | [], _ => rfl
  | d :: r, h => by
    show (PyData.canLay0 d && PyData.canLayAll0 r) = true
    rw [h d List.mem_cons_self, lay_all r fun x hx => h x (List.mem_cons_of_mem _ hx)]
    rfl
theorem depth_all (n : Nat) : ∀ (ds : List PD), (∀ d ∈ ds, d.depth ≤ n) → PyData.depthAll ds ≤ n
  | [], _ => Nat.zero_le _
  | d :: r, h => by
    show max (PyData.depth d) (PyData.depthAll r) ≤ n
    have h1 := h d List.mem_cons_self
    have h2 := depth_all n r fun x hx => h x (List.mem_cons_of_mem _ hx)
    omega
theorem Shp.list {n : Nat} {ds : List PD} (h : ∀ d ∈ ds, Shp n d) : Shp (n + 1) (.list ds) := ⟨lay_all ds fun d hd => (h d hd).1, Nat.succ_le_succ (depth_all n ds fun d hd => (h d hd).2)⟩
theorem Shp.tup {n : Nat} {ds : List PD} (h : ∀ d ∈ ds, Shp n d) : Shp (n + 1) (.tuple ds) := ⟨lay_all ds fun d hd => (h d hd).1, Nat.succ_le_succ (depth_all n ds fun d hd => (h d hd).2)⟩
theorem Shp.map {α : Type} {n : Nat} {f : α → PD} {l : List α} (h : ∀ a ∈ l, Shp n (f a)) : Shp (n + 1) (.list (l.map f)) := .list fun d hd => by
  obtain ⟨a, ha, rfl⟩ := List.mem_map.mp hd
  exact h a ha
theorem Shp.up {n m : Nat} {d : PD} (h : Shp n d) (hm : n ≤ m) : Shp m d := ⟨h.1, Nat.le_trans h.2 hm⟩
theorem Shp.shaped {n : Nat} {d : PD} (h : Shp n d) (hn : n ≤ 64) : SeqAt.shaped d = true := by
  unfold SeqAt.shaped
  rw [h.1, decide_eq_true (Nat.le_trans h.2 hn)]
  rfl
theorem eqD_self {n : Nat} {d : PD} (h : Shp n d) (hn : n ≤ 64) : eqD d d = .ok (.bool true) := by
  unfold eqD
  cases d with
  | none => rfl
  | bool b => simp [sc2]
  | int b => simp [sc2]
  | str b => simp [sc2]
  | list xs =>
    show (if _ then _ else _) = _
    rw [h.shaped hn, PySem.SeqAt.eqv_refl _ h.1]
    rfl
  | tuple xs =>
    show (if _ then _ else _) = _
    rw [h.shaped hn, PySem.SeqAt.eqv_refl _ h.1]
    rfl
  | dict xs => exact absurd h.1 (by simp [PyData.canLay0])
theorem neD_self {n : Nat} {d : PD} (h : Shp n d) (hn : n ≤ 64) : neD d d = .ok (.bool false) := by
  unfold neD
  cases d with
  | none => rfl
  | bool b => simp [sc2]
  | int b => simp [sc2]
  | str b => simp [sc2]
  | list xs =>
    show (if _ then _ else _) = _
    rw [h.shaped hn, PySem.SeqAt.eqv_refl _ h.1]
    rfl
  | tuple xs =>
    show (if _ then _ else _) = _
    rw [h.shaped hn, PySem.SeqAt.eqv_refl _ h.1]
    rfl
  | dict xs => exact absurd h.1 (by simp [PyData.canLay0])
/-! ### loops by an invariant; the law's own loop -/
def goes (r : R Fl) (en : En) : Prop := r = .ok (.nx en) ∨ r = .ok (.ct en)
theorem loop_inv {tg : PD → En → R En} {f : En → R Fl} (I : En → Prop) : ∀ (l : List PD), (∀ x ∈ l, ∀ en, I en → ∃ en', goes ((tg x en).noexc.bind f) en' ∧ I en') → ∀ en, I en → ∃ en', loopF tg f l en = .ok (.nx en') ∧ I en'
  | [], _, en, h => ⟨en, rfl, h⟩
  | x :: r, hs, en, h => by
    obtain ⟨e1, h1, h2⟩ := hs x List.mem_cons_self en h
    obtain ⟨e2, h3, h4⟩ := loop_inv I r (fun y hy => hs y (List.mem_cons_of_mem _ hy)) e1 h2
    refine ⟨e2, ?_, h4⟩
    rw [loopF_cons, ← h3]
    cases ht : (tg x en).noexc with
    | ok e =>
      rw [ht] at h1
      simp only [R.bind_ok] at h1 ⊢
      rcases h1 with h1 | h1 <;> rw [h1] <;> rfl
    | exc c => rw [ht] at h1; rcases h1 with h1 | h1 <;> cases h1
    | stuck => rw [ht] at h1; rcases h1 with h1 | h1 <;> cases h1
def cellsN (N : Int) (n : Nat) : Int := max 1 (min N n)
theorem dCell_ok (ns : List Int) (hn : ns.length ≤ 63) (k : Int) (hk : 0 ≤ k ∧ k < 1000) (r : En) : dCell 0 (dVar 1) (.rl (ns.map .int) :: .sh (.int k) :: r) = .ok (.int (cellF ns k)) := by
  unfold dCell
  simp [asInts_map, hn, hk.1, show k < 4294967296 by omega]
theorem law_loop {N : Int} (hN : 1 ≤ N ∧ N ≤ 4) {body : En → R Fl} (ns : List Int) (I : En → Prop) (m : Nat) (h0 : I (.rl (ns.map .int) :: List.replicate m .no))
    (hs : ∀ k : Int, 0 ≤ k → k < 1000 → ∀ en, I en → ∃ en', goes (body (en.set 1 (.sh (.int k)))) en' ∧ I en') :
    ∃ en', sFor (dItA rng1 (dCons (dN max2D (dCons (dC (.int 1)) (dCons (dN minD (dCons (dC (.int N)) (dCons (dLenR 0) dNil))) dNil))) dNil)) (gN 1) body (.rl (ns.map .int) :: List.replicate m .no) = .ok (.nx en') ∧ I en' := by
  generalize hv : (if (if (ns.length : Int) < N then (ns.length : Int) else N) > 1 then (if (ns.length : Int) < N then (ns.length : Int) else N) else 1) = v
  have bv : 1 ≤ v ∧ v ≤ 4 := by
    rw [← hv]
    split <;> split <;> omega
  have hr : rng1 [.int v] = .ok (rngL 0 v.toNat) := if_pos (by omega)
  obtain ⟨en', h1, h2⟩ := loop_inv (tg := gN 1) (f := body) I (rngL 0 v.toNat) (fun x hx en hen => by
    unfold rngL at hx
    obtain ⟨i, hi, rfl⟩ := List.mem_map.mp hx
    have := List.mem_range.mp hi
    simp only [gN_ap, R.noexc_ok, R.bind_ok]
    exact hs (0 + (i : Int)) (by omega) (by omega) en hen) _ h0
  refine ⟨en', ?_, h2⟩
  rw [← h1]
  have e1 : dItA rng1 (dCons (dN max2D (dCons (dC (.int 1)) (dCons (dN minD (dCons (dC (.int N)) (dCons (dLenR 0) dNil))) dNil))) dNil) (.rl (ns.map .int) :: List.replicate m .no) = .ok (rngL 0 v.toNat) := by
    simp [hv, hr]
  rw [sFor_ap, e1]
  rfl
theorem law_of {N : Int} (hN : 1 ≤ N ∧ N ≤ 4) {body : En → R Fl} (ns : List Int) (I : En → Prop) (m : Nat) (h0 : I (.rl (ns.map .int) :: List.replicate m .no))
    (hs : ∀ k : Int, 0 ≤ k → k < 1000 → ∀ en, I en → ∃ en', goes (body (en.set 1 (.sh (.int k)))) en' ∧ I en') :
    runL (m + 1) (sNx (sSeq (sFor (dItA rng1 (dCons (dN max2D (dCons (dC (.int 1)) (dCons (dN minD (dCons (dC (.int N)) (dCons (dLenR 0) dNil))) dNil))) dNil)) (gN 1) body) (sRet (dC (.bool true))))) ns = .ok (.bool true) := by
  obtain ⟨en', h1, _⟩ := law_loop hN ns I m h0 hs
  unfold runL
  rw [Nat.add_sub_cancel, sNx_ap, sSeq_ap, h1]
  rfl
end Dn

/-! while an exception is handled: the end of a list's walk, sum, comprehensions. -/
namespace Dn
open PySem PySem.Spec PyProof.Rows L2 L2H HotX
section
variable {prog : Program} {w : World} {A : Around} {E : Value → Shared → Prop} {s : Shared}
theorem hot_ne {x1 it l : Addr} {i : Nat} (hot : HotAt A x1 s.heap) (hit : s.heap.IsListIter it l i) : x1 ≠ it := by
  obtain ⟨_, o, vs, h1, d1, c1⟩ := hot
  obtain ⟨o2, h2, _, d2⟩ := hit
  rintro rfl
  rw [h1] at h2
  cases h2
  rw [d1] at d2
  cases d2
  simp at c1
/-- StopIteration is made and raised: E is told of a heap that keeps all, in which the new error stands -/
theorem stop_hot {α : Type} {x1 : Addr} {F : Value → Shared → Prop} {Q : α → Shared → Prop} (hot : HotAt A x1 s.heap)
    (hF : ∀ (a : Addr) (g : Heap), (∀ b o, s.heap.get? b = some o → g.get? b = some o) → Shared.TypeIs { s with heap := g } (.ref a) "StopIteration" → F (.ref a) { s with heap := g }) :
    wpAny (model prog w) A (newExc (.type "StopIteration") [] >>= fun x => (raiseNew x : Sem α)) Q F s := by
  obtain ⟨hh, o, vs, h1, d1, c1⟩ := hot
  have keep2 : ∀ (p q : Obj) (b : Addr) (u : Obj), s.heap.get? b = some u → ((s.heap.push p).push q).get? b = some u := fun p q b u e => Heap.get?_push_of_some _ (Heap.get?_push_of_some _ e)
  simp only [newExc, newTuple]
  refine wpAny_bind (wpAny_bind (wpAny_newObj_type (wpAny_bind (m := firstArgMember _ _) (wpAny_of_eq (a := Value.none) (by first | rfl | (simp only [firstArgMember]; rfl)) (wpAny_newObj_type ?_ (by size_fits)))) (by size_fits)))
  refine raiseNew_hot ⟨hh, o, vs, keep2 _ _ _ _ h1, d1, c1⟩ (Nat.ne_of_lt (Heap.lt_size (Heap.get?_push_of_some _ h1))) (Heap.get?_push_size _ rfl) rfl (by first | (simp; done) | (simp; omega) | (simp only [Array.size_append]; simp; omega)) (hF _ _ (fun b u e => ?_) ?_)
  · rw [Heap.get?_update_other _ _ (Nat.ne_of_gt (Heap.lt_size (Heap.get?_push_of_some _ e)))]
    exact keep2 _ _ b u e
  · exact ⟨_, Heap.get?_update_self _ (Heap.get?_push_size _ rfl) rfl, rfl⟩
/-- the walk of a list ends while an exception is handled -/
theorem list_end_hot {it l x1 : Addr} {i : Nat} {xs : Array Value} {Q : Option Value → Shared → Prop} (hot : HotAt A x1 s.heap) (hit : s.heap.IsListIter it l i) (hl : s.heap.IsList l xs) (hx : xs[i]? = none)
    (hQ : ∀ g, Heap.ExtBut it s.heap g → Q none { s with heap := g }) : wpAny (model prog w) A (pyNext (.ref it)) Q E s := by
  have hne := hot_ne hot hit
  have T := hit.typeIs
  obtain ⟨oi, hoi, _, di⟩ := hit
  obtain ⟨ol, hol, _, nl, dl⟩ := hl
  have nn : ¬ ((Value.ref l == Value.none) = true) := Bool.false_ne_true
  have hot2 : HotAt A x1 (s.heap.update it (Obj.mapFields (·.setIfInBounds 0 .none))) := by
    obtain ⟨hh, o, vs, h1, d1, c1⟩ := hot
    refine ⟨hh, o, vs, ?_, d1, c1⟩
    rw [Heap.get?_update_other _ _ (Ne.symm hne)]
    exact h1
  have go := wpAny_callSpecial?_slot (M := model prog w) (A := A) (name := Str.ofString "__next__") T slot_listiter_next (Q := fun _ _ => False) (E := fun e t => wpAny (model prog w) A (isInstance e (.type "StopIteration")) (fun b t' => b = true ∧ Q none t') E t) (s := s)
    (wpAny_call_entry slot_listiter_next T entry_listiter_next (by
      show wpAny _ _ (field (.ref it) 0 >>= _) _ _ s
      refine wpAny_bind (wpAny_field hoi di (x := .ref l) rfl ?_)
      show wpAny _ _ (ite _ _ _) _ _ s
      rw [if_neg nn]
      show wpAny _ _ (field (.ref it) 1 >>= fun v => _) _ _ s
      refine wpAny_bind (wpAny_field hoi di (x := .int i 0) rfl ?_)
      show wpAny _ _ (seqItems? (.ref l) >>= fun v => _) _ _ s
      refine wpAny_bind (wpAny_seqItems hol dl ?_)
      simp only [Int.toNat_natCast, hx]
      refine wpAny_bind (wpAny_rule (wpAny_bind (wpAny_setField hoi di (by simp) ?_)))
      refine stop_hot hot2 fun a g k ty => ?_
      refine wpAny_isInstance (T := "StopIteration") (b := true) ty isSubtype_stop ⟨rfl, hQ g fun b o hb e => k b o ?_⟩
      rw [Heap.get?_update_other _ _ (Ne.symm hb)]
      exact e) (args_listiter_next _))
  unfold pyNext
  refine wpAny_bind (wpAny_attempt (wpAny_mono go (fun v t z => z.elim) fun e t z => wpAny_bind (wpAny_mono z (fun b t' hb => ?_) fun _ _ y => y)))
  rw [hb.1, if_pos rfl]
  exact wpAny_pure hb.2
theorem hot_keep {x1 : Addr} {h h' : Heap} (hot : HotAt A x1 h) (k : ∀ o, h.get? x1 = some o → h'.get? x1 = some o) : HotAt A x1 h' := by
  obtain ⟨hh, o, vs, h1, d1, c1⟩ := hot
  exact ⟨hh, o, vs, k _ h1, d1, c1⟩
theorem walks_hot {x1 I ax : Addr} (hne : ax ≠ I) (xs : Array Value) : Walks prog w A I [I, ax, x1] [I] xs.size (fun i v => xs[i]? = some v) (fun i h => (h.IsListIter I ax i ∧ h.IsList ax xs) ∧ HotAt A x1 h) where
  sub := fun b hb => by simp at hb; simp [hb]
  frame := fun _ _ _ st hk => ⟨⟨st.1.1.at fun o e => hk I (by simp) o e, st.1.2.at fun o e => hk ax (by simp) o e⟩, hot_keep st.2 fun o e => hk x1 (by simp) o e⟩
  item := fun i t Q E hi st hQ => by
    obtain ⟨hot⟩ : Nonempty (x1 ≠ I) := ⟨by
      obtain ⟨_, o, vs, h1, d1, c1⟩ := st.2
      obtain ⟨o2, h2, _, d2⟩ := st.1.1
      rintro rfl
      rw [h1] at h2
      cases h2
      rw [d1] at d2
      cases d2
      simp at c1⟩
    refine wpAny_pyNext_list_item st.1.1 st.1.2 (x := xs[i]) (by simp [hi]) fun g hit' hs' => ?_
    exact hQ _ g t.toks (by simp [hi]) ⟨⟨hit', st.1.2.extBut hs'.extBut hne⟩, hot_keep st.2 fun o e => hs'.extBut x1 o hot e⟩ fun b o hb e => hs'.extBut b o (fun z => hb (by simp [z])) e
  done := fun t Q E st hQ => list_end_hot st.2 st.1.1 st.1.2 (by simp) fun g he' => hQ g t.toks fun b o hb e => he' b o (fun z => hb (by simp [z])) e
  self := fun _ _ _ _ st hQ => wpAny_pyIter_listiter st.1.1 hQ
theorem sum_hot {x1 l : Addr} {its : List Value} {ns : List Int} {Q : Value → Shared → Prop} (hot : HotAt A x1 s.heap) (hl : s.heap.IsList l its.toArray) (hi : IntsAre its ns)
    (h : ∀ g tk t', (∀ b o, s.heap.get? b = some o → g.get? b = some o) → Q (.int ns.sum t') { s with heap := g, toks := tk }) : wpAny (model prog w) A (call (.builtin "sum") [.ref l]) Q E s := by
  obtain ⟨xs, e⟩ := hi.allInts.items
  have hn : numsOf (intItems xs).toList = ns := by rw [← e]; exact hi.numsOf
  rw [nums_intItems] at hn
  rw [e] at hl
  refine call_sum_walkG (iter_intList hl fun s₂ e2 st hfp hlI => ?_)
  subst e2
  obtain ⟨hh, oe, ve, he, de, ce⟩ := hot
  have hx1 : x1 < s.heap.objs.size := Heap.lt_size he
  refine ⟨_, _, _, _, _, _, numAt xs, rfl, walks_hot (A := A.in1) (x1 := x1) hlI (intItems xs), ⟨st, hh, oe, ve, Heap.get?_push_of_some _ he, de, ce⟩, fun b hb => ?_, (fun _ _ => intItems_at), fun g tk t' hk => ?_⟩
  · simp only [List.mem_cons, List.not_mem_nil, or_false] at hb
    rcases hb with hb | hb | hb
    · exact hfp _ (by simp [hb])
    · exact hfp _ (by simp [hb])
    · rw [hb]
      show _ < (s.heap.push _).objs.size
      rw [Heap.size_push]
      exact Nat.lt_succ_of_lt hx1
  · have := h g tk t' (old_kept hk)
    have e3 : preSum (numAt xs) xs.size = ns.sum := by rw [preSum_eq, List.take_of_length_le (by simp), hn]
    rw [← e3] at this
    simpa [intItems] using this
end
/-! ### the flags as numbers, while an exception is handled -/
theorem obj_some {P : Program} {w : World} {H : Hp} {h : Heap} {a : Addr} {o : HO} (x : ObjOk P w H h a o) : ∃ u, h.get? a = some u := by
  cases o with
  | lst xs => exact ⟨_, x.2.choose_spec.choose_spec.2⟩
  | tup xs => exact ⟨_, x.2.choose_spec.2.choose_spec.1⟩
  | dK kvs =>
    obtain ⟨_, _, vs, _, d⟩ := x
    obtain ⟨o, es, ep, e, _⟩ := d
    exact ⟨o, e⟩
  | dT kvs =>
    obtain ⟨_, _, xs, _, d⟩ := x
    obtain ⟨o, es, ep, e, _⟩ := d
    exact ⟨o, e⟩
  | set S n =>
    obtain ⟨o, a1, a2, a3, e, _⟩ := x
    exact ⟨_, e⟩
  | ins C dx fs => exact ⟨_, x.2.2.2.1⟩
  | own y => exact x
  | xd fs =>
    obtain ⟨mA, d, _⟩ := x
    obtain ⟨o, es, ep, e, _⟩ := d
    exact ⟨_, e⟩
  | rng lo hi =>
    obtain ⟨t, u, v, e⟩ := x
    exact ⟨_, e⟩
  | frz ob u => exact ⟨_, x.1⟩
  | tbl ps => exact ⟨_, x⟩
  | met f y => exact ⟨_, x⟩
  | ext φ => exact x.2.1
def bi (b : Bool) : Int := if b then 1 else 0
section
variable {X : Cx}
theorem HotC.hot {pins : List (Addr × Obj)} {σ : L2.St} {H : Hp} {s : Shared} (c : HotC X) (I : Inv X pins σ H s) : ∃ x1, HotAt X.A x1 s.heap := HotC.at c I
theorem vals_bls : ∀ {bs : List Bool} {its : List Value}, Vals (bs.map V.bl) its → its = bs.map Value.bool
  | [], _, .nil => rfl
  | b :: r, _, .cons h t => by
    cases h
    rw [vals_bls t]
    rfl
theorem ints_vals : ∀ {bs : List Bool} {ys : List Value}, Paired (fun (v y : Value) => ∃ b t, v = .bool b ∧ y = .int (bi b) t) (bs.map Value.bool) ys → Vals (bs.map fun b => V.int (bi b)) ys
  | [], _, .nil => .nil
  | b :: r, _, .cons h t => by
    obtain ⟨c, tk, e1, e2⟩ := h
    cases e1
    subst e2
    exact .cons ⟨tk, rfl⟩ (ints_vals t)
/-- [int(x) for x in l] of a list of truths -/
def tInts (K : PySem.W.Frag) (tl : TE) : TE := fun σ H Q => tl σ H fun v H1 => ∃ a bs, v = .ref a ∧ SqL K H1 a (List.map V.bl bs) ∧ ∀ D, H1 D = none → Q (.ref D) (upd H1 D (.lst (bs.map fun b => V.int (bi b))))
theorem pe_intsH {iter : Expr} {x : Str} {scope : Scope} {tl : TE} {px p1 p2 p3 pos : Pos} (hot : HotC X) (hl : PE X iter tl) (hm : X.mg "int" = none) (hk : scope.kind = .function) (hx : scope.names.lookup x = some .local) (hi : scope.names.lookup ("int" : Str) = some .globalImplicit)
    (hf : ∀ y ∈ scope.names, y.2 ≠ .free) (hc : ∀ y ∈ scope.names, y.2 ≠ .cell) (hn : ∀ y ∈ scope.names, y.2 = .local → scope.names.lookup y.1 = some .local) (hd : (x == ("__debug__" : Str)) = false) (hs : ∀ z, foldedSetIterable iter X.env z = pure z := by intro _; rfl) :
    PE X (.ListComp (.Call (.Name "int" p1) [.Name x p2] [] p3) [⟨.Name x px, iter, [], 0⟩] scope pos) (tInts X.K tl) := by
  refine ⟨fun pins s σ H Q I h => ?_⟩
  refine wpAny_ListComp_walk (fun _ => true) (fun v y => ∃ b t, v = .bool b ∧ y = .int (bi b) t) hf hc hk hn hx ?_ hs
  refine wpAny_mono (hl.run pins s σ H _ I h) (fun u s1 ⟨v, H1, I1, r1, a, bs, ev, hq, q⟩ => ?_) fun _ _ z => z
  subst ev
  obtain rfl : u = Value.ref a := r1
  obtain ⟨its, rv, pl, hz⟩ := I1.list hq
  have eits := vals_bls rv
  subst eits
  have isl := pl.isList
  obtain ⟨x1, hh, oe, ve, he, de, ce⟩ := HotC.at hot I1
  have halt : a < s1.heap.objs.size := by
    obtain ⟨_, e, _⟩ := isl
    exact Heap.lt_size e
  refine wpAny_pyIter_list isl ?_
  let g1 := s1.heap.push { cls := .type "list_iterator", data := .fields #[.ref a, .int 0 0] }
  have old : ∀ b o, s1.heap.get? b = some o → g1.get? b = some o := fun b o e => Heap.get?_push_of_some _ e
  refine ⟨s1.heap.objs.size, [s1.heap.objs.size, a, x1], [s1.heap.objs.size], (bs.map Value.bool).toArray.size, _, _, rfl, walks_hot (Nat.ne_of_lt halt) (bs.map Value.bool).toArray, ?_, ⟨⟨⟨_, Heap.get?_push_size _ rfl, rfl, rfl⟩, isl.push _⟩, hh, oe, ve, old _ _ he, de, ce⟩, ?_, ⟨?_, ?_⟩, ?_⟩
  · simpa using hz
  · intro b hb
    show b < (s1.heap.push _).objs.size
    rw [Heap.size_push]
    simp only [List.mem_cons, List.not_mem_nil, or_false] at hb
    rcases hb with hb | hb | hb
    · rw [hb]; exact Nat.lt_succ_self _
    · rw [hb]; exact Nat.lt_succ_of_lt halt
    · rw [hb]; exact Nat.lt_succ_of_lt (Heap.lt_size he)
  · intro C i v s3 m3 E' _ _ _ _ _
    exact wpAny_pure ⟨rfl, s3.heap, s3.toks, rfl, fun _ _ e => e⟩
  · intro C i v s3 m3 E' hv _ hns hmx hk3 _
    have hv' : (bs.map Value.bool)[i]? = some v := by simpa using hv
    rw [List.getElem?_map] at hv'
    cases hb : bs[i]? with
    | none => rw [hb] at hv'; cases hv'
    | some b =>
      rw [hb] at hv'
      cases hv'
      have k3 : ∀ c o, s1.heap.get? c = some o → s3.heap.get? c = some o := fun c o e => hk3 c o (fun z => by
        have z2 : c = s1.heap.objs.size := by simpa using z
        exact absurd (Heap.lt_size e) (by rw [z2]; exact Nat.lt_irrefl _)) (old c o e)
      obtain ⟨mb, b1, b2⟩ := I1.mod.blt
      refine Call_ (Calls.Name_function_global hk hi (Calls.loadGlobal_builtin (mg := X.mg) (mb := mb) (v := .type "int") ?_ hm ?_ ((b2 _ (by decide)).trans (by decide +kernel)) ?_))
      · show s3.heap.Ns X.env.globals X.mg
        rw [I1.ok.glob]
        exact (I1.mod.glob.keeps I1.bk).keeps k3
      · show s3.heap.Ns X.env.builtins mb
        rw [I1.ok.blt]
        exact (b1.keeps I1.bk).keeps k3
      · refine PyProof.Rows.callWith_type1 (args_cons (wpAny_Name (wpAny_loadName_local hk hx hns hmx (Calls.spliced_nil (call_int_bool ⟨⟨b, _, rfl, rfl⟩, s3.heap, _, rfl, fun _ _ e => e⟩))) hd))
  · intro D g tk ys vs hD hIs hpl hlen hP hF hk4
    have evs : vs = bs.map Value.bool := by
      apply List.ext_getElem?
      intro j
      by_cases hj : j < vs.length
      · have := hP j vs[j] (List.getElem?_eq_getElem hj)
        rw [List.getElem?_eq_getElem hj]
        simpa using this.symm
      · rw [List.getElem?_eq_none (by omega), List.getElem?_eq_none]
        simp at hlen
        simp
        omega
    have hF2 : Paired (fun (v y : Value) => ∃ b t, v = .bool b ∧ y = .int (bi b) t) (bs.map Value.bool) ys.toList := by
      rw [← evs, ← List.filter_eq_self.mpr (fun (a : Value) (_ : a ∈ vs) => (rfl : (fun _ : Value => true) a = true))]
      exact hF
    have hD1 : s1.heap.get? D = none := by
      cases e : s1.heap.get? D with
      | none => rfl
      | some o =>
        have := old D o e
        rw [show g1.get? D = none from hD] at this
        cases this
    have hDn : H1 D = none := by
      cases e : H1 D with
      | none => rfl
      | some o =>
        obtain ⟨u, hu⟩ := obj_some (I1.hok D o e)
        rw [hD1] at hu
        cases hu
    obtain ⟨n, hg⟩ := hpl
    refine ⟨.ref D, upd H1 D (.lst (bs.map fun b => V.int (bi b))), I1.laidN (t' := tk) (fun b o e => hk4 b o (fun z => ?_) (old b o e)) hD1 hDn ⟨by simpa using hz, ys.toList, n, ints_vals hF2, by simpa using hg⟩, rfl, q D hDn⟩
    have z2 : b = s1.heap.objs.size := by simpa using z
    exact absurd (Heap.lt_size e) (by rw [z2]; exact Nat.lt_irrefl _)
end
end Dn

/-! a lambda handed to a def that catches its errors. -/
namespace Dn
open PySem PySem.Spec PyProof.Rows L2 L2H HotX
/-- where the lambda's body runs: errors without context are let out -/
abbrev lamN (X : Cx) (A : Around) (outer : List Env) (s : Shared) (H : Hp) (E : XK) (scope : Scope) (f c : Addr) : Cx :=
  (LamX.lamCx X A outer s H E scope f c).tr [] fun e t => wpAny (model X.prog X.w) (A.deeper (LamX.lamEnv X scope s.heap.objs.size f c)) (leaving (LamX.lamEnv X scope s.heap.objs.size f c) e) (fun _ t' => L2N.CX X.prog X.w outer H s E e t') (fun e' t' => L2N.CX X.prog X.w outer H s E e' t') t
section
variable {X : Cx} {pins : List (Addr × Obj)} {σ : L2.St} {H HZ : Hp} {s t : Shared}
/-- the lambda at f is called in the state t, from the frames outer -/
theorem lam_call {A : Around} {outer : List Env} {scope : Scope} {params : Arguments} {body : Expr} {f c : Addr} {pm ctv : Value} {k : Nat} {E : XK} {Q : VK} {tb : TE} (I : Inv X pins σ H s) (L : LamX.LamS X.env.scope scope)
    (hf : t.heap.get? f = some (PySem.W.kla_obj "<lambda>" (X.env.qual ++ "<lambda>") params body scope (cloFrom X.env.cells scope.names []) pm c ctv))
    (hb : bindArgs (PySem.W.kla_fn "<lambda>" (X.env.qual ++ "<lambda>") params body scope (cloFrom X.env.cells scope.names []) pm (.ref c) ctv) ⟨[], []⟩ = pure [])
    (e0 : Env0 X.prog X.w X.K X.mg X.base A outer t HZ) (un : Un (frs X.stack) [] H HZ s.heap t.heap) (lim : t.heap.NoLimit) (hr : Room (k + 1) A) (hc : HZ c = some (LamX.CodeO c (X.env.qual ++ "<lambda>")))
    (he : Room k (A.deeper (LamX.lamEnv X scope t.heap.objs.size f c)) → PE (lamN X A outer t HZ E scope f c) body tb) (h : tb σ HZ Q) :
    codeAny (model X.prog X.w) A (.call (.ref f) ⟨[], []⟩) (CR (L2N.CX X.prog X.w) outer X.prog X.w HZ t Q E) t := by
  have hco := e0.hok c _ hc
  obtain ⟨⟨oc, vc, tc, g1, g2, g3⟩, _⟩ := hco
  refine PySem.W.kla_callFunE hr.depth hf rfl L.co L.gen rfl ⟨c, oc, vc, tc, rfl, g1, g2, g3⟩ ?_
  rw [hb]
  refine wpAny_pure (wpAny_newFunctionEnv (fun y q => (L.own y q).2) (fun y q => (by simp at q)) (fun g ns sb => ⟨lim.fresh _ sb, ?_⟩) L.kind)
  have keep : ∀ b o, t.heap.get? b = some o → g.get? b = some o := fun b o e => sb.extBut b o (Nat.ne_of_lt (Heap.lt_size e)) (Heap.get?_push_of_some _ e)
  have J := (LamX.lam_start2 (A := A) (outer := outer) (E := E) (scope := scope) (f := f) (c' := c) (tk := t.toks + ([] : List (Str × Value)).length) I L e0 hr.hd un ns keep).toTry (lamN X A outer t HZ E scope f c).xe
  refine PySem.W.kla_codeExpr (wpAny_mono ((he (hr.deeper _)).run [] _ σ HZ Q J h) (fun v t2 q => ?_) fun e t2 q => q)
  obtain ⟨x, H2, J2, rx, q⟩ := q
  exact ⟨x, H2, J2.os, J2.bare, J2.base, J2.hok, rx, q⟩
/-- deed(), in the def that got the lambda -/
theorem pe_deed {CXg : CXT} {Eg : XK} {Ng : List Str} {qg : Str} {sg : Scope} {g f c : Addr} {cdg pm ctv : Value} {params : Arguments} {body : Expr} {scope : Scope} {k i : Nat} {a : Str} {pn : List (Addr × Obj)} {xe : Value → Shared → Prop} {W : WX} {E : XK} {tb : TE} {p1 p2 : Pos}
    (I : Inv X pins σ H s) (L : LamX.LamS X.env.scope scope) (hf : s.heap.get? f = some (PySem.W.kla_obj "<lambda>" (X.env.qual ++ "<lambda>") params body scope (cloFrom X.env.cells scope.names []) pm c ctv)) (nf : H f = none) (nfr : f ∉ frs X.stack)
    (hb : bindArgs (PySem.W.kla_fn "<lambda>" (X.env.qual ++ "<lambda>") params body scope (cloFrom X.env.cells scope.names []) pm (.ref c) ctv) ⟨[], []⟩ = pure [])
    (tk : L2N.Takes ((cxOf CXg X.prog X.w X.K X.mg X.base Ng qg sg g cdg X.A X.stack s H Eg).tr pn xe) W) (hW : ∀ cls d σ' H', E cls d H' → W cls d σ' H') (hr : Room (k + 1) (X.A.deeper (envOfC qg sg s.heap.objs.size g cdg)))
    (he : ∀ (A : Around) (outer : List Env) (t : Shared) (HZ : Hp), Room k (A.deeper (LamX.lamEnv X scope t.heap.objs.size f c)) → PE (lamN X A outer t HZ E scope f c) body tb)
    (hN : Ng[i]? = some a) (hv : Vis sg a) (hd : (a == ("__debug__" : Str)) = false) (hcd : (a == ("__classdict__" : Str)) = false) :
    PE ((cxOf CXg X.prog X.w X.K X.mg X.base Ng qg sg g cdg X.A X.stack s H Eg).tr pn xe) (.Call (.Name a p1) [] [] p2)
      (fun σZ HZ Q => σZ[i]? = some (some (.ref f)) ∧ HZ c = some (LamX.CodeO c (X.env.qual ++ "<lambda>")) ∧ tb σ HZ Q) := by
  refine ⟨fun pz sz σz Hz Q Iz h => ?_⟩
  obtain ⟨h1, h2, h3⟩ := h
  have nm := (pe_var (pos := p1) (i := i) (X := (cxOf CXg X.prog X.w X.K X.mg X.base Ng qg sg g cdg X.A X.stack s H Eg).tr pn xe) hN hv hd hcd).run pz sz σz Hz (fun v H1 => v = .ref f ∧ H1 = Hz) Iz ⟨.ref f, h1, rfl, rfl⟩
  refine wpAny_Call_Name_kw (thn nm fun u s1 ⟨v, H1, J, rv, ev, eH⟩ => ?_)
  subst ev
  subst eH
  obtain rfl : u = Value.ref f := rv
  have hf1 := J.base.keep f _ hf nf nfr (fun z => nomatch (show f ∈ ([] : List Addr) from z))
  have rc : codeAny (model X.prog X.w) (X.A.deeper (envOfC qg sg s.heap.objs.size g cdg)) (.call (.ref f) ⟨[], []⟩) (CR (L2N.CX X.prog X.w) (envOfC qg sg s.heap.objs.size g cdg :: X.stack) X.prog X.w H1 s1 Q E) s1 :=
    lam_call (X := X) (k := k) (E := E) (Q := Q) (tb := tb) I L hf1 hb J.env0 J.base J.nolimit hr h2 (he _ _ s1 H1) h3
  refine PySem.W.callWith_F0 ⟨_, _, _, _, hf1⟩ (wpAny_call (codeAny_mono rc fun r s2 q => ?_))
  cases r with
  | error e => exact L2N.passes_call tk hW pz σz H1 s1 e s2 J q
  | ok fl =>
    cases fl with
    | ret u => exact J.after q
    | next => exact q.elim
    | brk => exact q.elim
    | cont => exact q.elim
end
/-! ### a def called where the exception p is handled -/
section
variable {P : Program} {w : World} {K : PySem.W.Frag} {mg : Str → Option Value} {base : Heap}
theorem hot_def {CX : CXT} {x qual : Str} {st : Stmt} {f : Addr} {fd : FuncData} {N ps : List Str} {k : Nat} {A : Around} {outer : List Env} {s : Shared} {H : Hp} {args : Args} {us : List Value} {vs : List V} {Q : VK} {E : XK} {p : Addr × Obj}
    (F : Fun K x qual st f fd) (S : FnScope N ps (defScope st)) (hr : RoomH (k + 1) A) (pin : PinOk outer H s p) (e0 : Env0 P w K mg base A outer s H) (hb : BindsTo s fd args (ps.zip us)) (r : Vals vs us) (hl : vs.length = ps.length)
    (hd : ∀ cdv : Value, RoomH k (A.deeper (envOfC qual (defScope st) s.heap.objs.size f cdv)) → ∃ t, PSs (cxH CX P w K mg base N qual (defScope st) f cdv A outer s H E p) (defBody st) t ∧ t { nx := fun _ H' => Q .non H', rt := Q } (L2.start N vs) H) :
    codeAny (model P w) A (.call (.ref f) args) (CR CX outer P w H s Q E) s := by
  obtain ⟨v1, v2, v3, v4, v5, v6, cdv, v8, v9, rfl, h1, h2⟩ := F.ex
  have inK : K.In s.heap := e0.mod.kin.keeps fun b o q => (e0.bs b o q).1
  have nolim : s.heap.NoLimit := e0.mod.nolimit.keeps fun b o q => (e0.bs b o q).1
  refine codeAny_call_function hr.depth (inK _ _ h1) rfl S.co S.gen rfl (PySem.W.codeRec_of inK h2) (hb _ _ _ _ (wpAny_newFunctionEnv_cells S.kind (fun ⟨n, v⟩ hy => ?_) fun env ev s1 inC => ?_))
  · rcases S.par n (List.of_mem_zip hy).1 with q | q
    · exact .inl q
    · exact .inr ⟨q, PySem.W.cellsFrom_some _ _ _ (.inl q)⟩
  · subst ev
    obtain ⟨t, ht, hq⟩ := hd cdv (hr.deeper _)
    have J : Inv (cxH CX P w K mg base N qual (defScope st) f cdv A outer s H E p) [] (L2.start N vs) H s1 := inv_startH S pin e0 hl r inC
    refine ⟨nolim.keeps inC.toInCall.keep, codeAny_func (wpAny_mono (ht.run [] s1 _ H _ J hq) (fun fl s2 hs => ?_) fun _ _ q => q)⟩
    have back : ∀ {σ2 : L2.St} {H2 : Hp} {v : V} {u : Value}, Inv (cxH CX P w K mg base N qual (defScope st) f cdv A outer s H E p) [] σ2 H2 s2 → RelV v u → Q v H2 → CE outer P w H s Q u s2 := fun {σ2 H2 v u} J2 rv q => ⟨v, H2, J2.os, J2.bare, J2.base, J2.hok, rv, q⟩
    cases fl with
    | ret u => exact let ⟨v, _, _, J2, rv, q⟩ := hs; back J2 rv q
    | next => exact let ⟨_, _, J2, q⟩ := hs; back (v := V.non) (u := Value.none) J2 rfl q
    | brk => exact let ⟨_, _, _, q⟩ := hs; q.elim
    | cont => exact let ⟨_, _, _, q⟩ := hs; q.elim
/-- x(e), e the slot of the handled exception, within the suite -/
theorem pe_hot {X : Cx} {CX : CXT} {x q : Str} {st : Stmt} {f : Addr} {fd : FuncData} {N : List Str} {k i : Nat} {a n : Str} {E : XK} {p : Addr × Obj} {pos p1 p2 : Pos} {G : Hp → VK → Prop}
    (F : Fun X.K x q st f fd) (S : FnScope N [a] (defScope st)) (hr : RoomH (k + 1) X.A) (hp : p ∈ X.pn) (hg : Gl X x) (hm : X.mg x = some (.ref f)) (hb : Binds X.K fd [a] []) (hx : Passes CX X E)
    (hi : X.N[i]? = some n) (hv : Vis X.env.scope n) (hd1 : (x == ("__debug__" : Str)) = false) (hd2 : (n == ("__debug__" : Str)) = false) (hd3 : (n == ("__classdict__" : Str)) = false)
    (hd : ∀ (H : Hp) (s : Shared) (Q : VK) (cdv : Value), G H Q → RoomH k (X.A.deeper (envOfC q (defScope st) s.heap.objs.size f cdv)) →
      ∃ t, PSs (cxH CX X.prog X.w X.K X.mg X.base N q (defScope st) f cdv X.A X.stack s H E p) (defBody st) t ∧ t { nx := fun _ H' => Q .non H', rt := Q } (L2.start N [.ref p.1]) H) :
    PE X (.Call (.Name x p1) [.Name n p2] [] pos) (fun σ H Q => σ[i]? = some (some (.ref p.1)) ∧ G H Q) := by
  refine ⟨fun pins s σ H Q I ⟨h1, h2⟩ => ?_⟩
  refine wpAny_Call_Name_kw (ld_glob I hg hm ?_ hd1)
  have nm := (pe_var (pos := p2) (i := i) (X := X) hi hv hd2 hd3).run pins s σ H (fun v H1 => v = .ref p.1 ∧ H1 = H) I ⟨.ref p.1, h1, rfl, rfl⟩
  have ar : PA X [.Name n p2] (tCons (tVar i) tNil) := pa_cons (pe_var hi hv hd2 hd3) pa_nil
  refine PySem.W.callWith_K (h₀ := X.base) I.ok.mod.kin F.kp (thn (ar.run pos pins s σ H (fun vs H1 => vs = [.ref p.1] ∧ H1 = H) I ⟨.ref p.1, h1, rfl, rfl⟩) fun us s1 ⟨vs, H1, J, rv, ev, eH⟩ => ⟨J.kIn, ?_⟩) rfl rfl
  subst ev
  subst eH
  have lu : us.length = 1 := by rw [← rv.length]; rfl
  have bnd := hb s1 us J.kIn (by rw [List.append_nil]; exact lu)
  rw [List.append_nil] at bnd
  obtain ⟨a1, a2, a3, a4, a5⟩ := J.pin p (List.mem_append_left _ hp)
  have pin : PinOk X.stack H1 s1 p := ⟨a1, a2, fun z => (List.mem_cons.mp (J.stkSub p.1 z)).elim a3 a4, a5⟩
  refine wpAny_call (codeAny_mono (hot_def (CX := CX) (k := k) (E := E) (Q := Q) (vs := [.ref p.1]) F S hr pin J.env0 bnd rv rfl fun cdv h => hd H1 s1 Q cdv h2 h) fun r s2 q => ?_)
  cases r with
  | error e => exact hx pins σ H1 s1 e s2 J q
  | ok fl =>
    cases fl with
    | ret u => exact J.after q
    | next => exact q.elim
    | brk => exact q.elim
    | cont => exact q.elim
end
/-! ### what _law_word asks: isinstance of the handled exception, sum -/
section
variable {X : Cx}
theorem call_sumH (hot : HotC X) : CallR X (.builtin "sum") (rSum X.K) := by
  intro pins s σ H vs us Q I r ⟨a, ns, ev, hs, q⟩
  subst ev
  obtain ⟨its, rv, hl, _⟩ := I.list hs
  obtain ⟨x1, hx⟩ := HotC.at hot I
  rw [Vals.ref1 r]
  exact sum_hot hx hl.isList rv.ints fun g tk t' hk => ⟨.int _, H, I.kept hk, ⟨_, rfl⟩, q⟩
theorem call_isP {a D : Addr} {oe : Obj} (C : ExcC X.K D) (hp : (a, oe) ∈ X.pn) (hz : oe.cls = .ref D ∧ oe.dict = none) (hf : ∃ vs, oe.data = .fields vs) : CallR X (.builtin "isinstance") (rIsE X.K D a) := by
  intro pins s σ H xs us Q I r ⟨c, cv, b, ev, hcv, e, q⟩
  subst ev
  match us, r with
  | [u1, u2], .cons ra (.cons rc .nil) =>
    obtain rfl : u1 = Value.ref a := ra
    have ec := hcv _ rc
    subst ec
    have get := (I.pin (a, oe) (List.mem_append_left _ hp)).1
    have at_ : PySem.W.InstAt s.heap a oe D none := by
      obtain ⟨vs, hv⟩ := hf
      obtain ⟨o1, o2, o3, o4⟩ := oe
      obtain ⟨z1, z2⟩ := hz
      dsimp only at z1 z2 hv
      subst z1 z2 hv
      exact ⟨get, rfl, rfl, trivial⟩
    exact PySem.W.kia_one (PySem.W.handS_kitx_exc C.hg C.hk C.hs C.hd C.ha C.hn C.ht C.hm) I.kIn at_ e (fun z => nomatch z) fun tk => ⟨.bl b, H, I.kept (t' := tk) fun _ _ z => z, rfl, q⟩
end
end Dn

/-! xs.index; the class of a caught error by its name; told. -/
namespace Dn
open PySem PySem.Spec PyProof.Rows L2 L2H HotX
variable [Tabl]
/-! ### xs.index(y) -/
def idxF (y : PD) : List PD → Option Nat
  | [] => none
  | d :: r => if eqF d y = true then some 0 else (idxF y r).map (· + 1)
def idxD (ds : List PD) (y : PD) : R PD := if (flatD y && ds.all flatD) = true then match idxF y ds with
    | some j => .ok (.int (j : Nat))
    | none => .stuck
  else .stuck
def dIdx (fo fa : En → R PD) : En → R PD := fun en => (fo en).bind fun x => match x with
  | .list ds => (fa en).bind fun y => idxD ds y
  | _ => .stuck
theorem idxF_spec (y : PD) : ∀ (ds : List PD) (j : Nat), idxF y ds = some j → ∃ d, ds[j]? = some d ∧ eqF d y = true ∧ ∀ m d', m < j → ds[m]? = some d' → eqF d' y = false
  | [], j, h => by cases h
  | d :: r, j, h => by
    unfold idxF at h
    split at h
    · rename_i hd
      cases h
      exact ⟨d, rfl, hd, fun m d' hm => absurd hm (Nat.not_lt_zero m)⟩
    · rename_i hd
      cases e : idxF y r with
      | none => rw [e] at h; cases h
      | some i =>
        rw [e] at h
        cases h
        obtain ⟨d', h1, h2, h3⟩ := idxF_spec y r i e
        refine ⟨d', h1, h2, fun m x hm hx => ?_⟩
        cases m with
        | zero => cases hx; simpa using hd
        | succ m => exact h3 m x (Nat.lt_of_succ_lt_succ hm) hx
section
variable {C : Cn} {to ta : TE} {fo fa : En → R PD}
theorem ed_index (ho : EdL C to fo) (ha : EdL C ta fa) : EdS C (tBM C.K "list" (rIndex C.K) to (tCons ta tNil)) (dIdx fo fa) := fun H0 ext reg en σ H rs Q w => by
  refine ho H0 ext reg en σ H rs _ ?_
  unfold dIdx at w
  cases eo : fo en with
  | exc c => rw [eo] at w; exact w
  | stuck => rw [eo] at w; exact w.elim
  | ok x =>
    rw [eo] at w
    simp only [R.bind_ok] at w
    intro v H2 e2 hv
    cases x with
    | list ds =>
      obtain ⟨p, xs, rfl, hp, hr⟩ := hv.lst fun a z => .inl z
      refine ⟨.inl ⟨rfl, xs, SqL.of hp⟩, ha.seq (rs.ex e2) (W := WrS C (own ext reg) H2 Q) (WrS.ex w e2) (fun _ q => q) (fun q => q) fun y u H3 e3 r3 hu w3 => ?_⟩
      unfold idxD at w3
      split at w3
      · rename_i hl
        obtain ⟨f1, f2⟩ := Bool.and_eq_true_iff.mp hl
        split at w3
        · rename_i j ej
          obtain ⟨d, g1, g2, g3⟩ := idxF_spec y ds j ej
          obtain ⟨z, z1, z2⟩ := hr.get g1
          have hu2 := hu.rps fun a z => .inl z
          refine ⟨p, xs, u, j, z, rfl, rfl, SqL.of (e3.l hp), hu2.flat f1, hr.flat f2, z1, ?_, fun m z' hm hz' => ?_, w3 _ H3 e3 (.int _)⟩
          · rw [z2.eqF hu2 (List.all_eq_true.mp f2 d (List.mem_of_getElem? g1)) f1]
            exact g2
          · obtain ⟨d', a1, a2⟩ := hr.getV hz'
            rw [a2.eqF hu2 (List.all_eq_true.mp f2 d' (List.mem_of_getElem? a1)) f1]
            exact g3 m d' hm a1
        · exact w3.elim
      · exact w3.elim
    | _ => exact w.elim
/-! ### [int(x) for x in l] -/
def intsD : PD → R PD
  | .list ds => match asBools ds with
    | some bs => if bs.length ≤ szN then .ok (.list (bs.map fun b => .int (bi b))) else .stuck
    | none => .stuck
  | _ => .stuck
theorem rpa_bi {K : PySem.W.Frag} {H : Hp} : ∀ (bs : List Bool), RpA K H (bs.map fun b => V.int (bi b)) (bs.map fun b => PyData.int (bi b))
  | [] => .nil
  | b :: r => .cons (.int _) (rpa_bi r)
theorem ed_ints (h : EdL C to fo) : EdS C (tInts C.K to) (d1 intsD fo) := fun H0 ext reg en σ H rs Q w =>
  h.seq rs (W := WrS C (own ext reg) H Q) w (fun _ q => q) (fun q => q) fun x v H2 e2 r2 hv w2 => by
    unfold intsD at w2
    split at w2
    · split at w2
      · rename_i bs eb
        split at w2
        · rename_i hl
          obtain ⟨p, xs, rfl, hp, hr⟩ := hv.lst fun a z => .inl z
          rw [hr.asBools eb] at hp
          exact ⟨p, bs, rfl, SqL.of hp, fun D hD => w2 _ _ (e2.trans (Xt.new hD)) (Rp.newL (fun a z => r2.there z) hD (rpa_bi bs))⟩
        · exact w2.elim
      · exact w2.elim
    · exact w2.elim
/-! ### isinstance of the exception in a slot -/
def dIs (i : Nat) (a : Addr) (b : Bool) : En → R PD := fun en => match en[i]? with
  | some (.xr a') => if a' = a then .ok (.bool b) else .stuck
  | _ => .stuck
theorem ed_is {D a : Addr} {b : Bool} {c : V} {cv : Value} (i : Nat) (hc : ∀ u, RelV c u → u = cv) (hk : PySem.W.kitOne C.K (.ref D) cv = some b) : EdS C (tCB (rIsE C.K D a) (tCons (tVar i) (tCons (tC c) tNil))) (dIs i a b) := fun H0 ext reg en σ H rs Q w => by
  unfold dIs at w
  cases e : en[i]? with
  | none => rw [e] at w; exact w.elim
  | some sv =>
    rw [e] at w
    obtain ⟨v, h1, h2⟩ := rs.sl i sv e
    cases sv with
    | xr a' =>
      dsimp only at w
      split at w
      · rename_i ha
        subst ha
        obtain rfl : v = some (V.ref a') := h2
        exact ⟨.ref a', h1, c, cv, b, rfl, hc, hk, w _ H (Xt.refl H) (.bl _)⟩
      · exact w.elim
    | _ => exact w.elim
end
/-! ### the class's name -/
/-- what the law's word asks of a class -/
structure WordT (K : PySem.W.Frag) (cl : Str → Addr) (ws : List Str) (ks : Addr) (c : Str) : Prop where
  kit : ∀ x ∈ ws, PySem.W.kitOne K (.ref (cl c)) (.ref (cl x)) = some (decide (c = x))
  val : PySem.W.kitOne K (.ref (cl c)) (.type "ValueError") = some true
  exc : ExcC K (cl c)
  cat : PySem.W.exmOne K (.ref (cl c)) (.ref ks) = some true
def runW (n : Nat) (f : En → R Fl) (a : Addr) : R PD := (f (SV.xr a :: List.replicate (n - 1) SV.no)).bind fun fl => match fl with
  | .nx _ => .ok .none
  | .rt d => .ok d
  | _ => .stuck
theorem RS.startX {K : PySem.W.Frag} {H : Hp} {a : Addr} {n : Nat} {N : List Str} (tb : LamX.Tabs Tabl.T H) (hn : N.length = n + 1) : RS K H (fun _ => False) (fun _ _ => False) (SV.xr a :: List.replicate n SV.no) (L2.start N [.ref a]) H := by
  refine ⟨Ex.refl H, tb, fun _ h => h.elim, fun _ _ h => h.elim, fun _ _ _ h => h.elim, fun _ _ h => h.elim, ?_, fun i sv e => ?_⟩
  · unfold L2.start
    simp [hn]
  · unfold L2.start
    cases i with
    | zero =>
      cases e
      exact ⟨_, rfl, rfl⟩
    | succ i =>
      rw [List.getElem?_cons_succ, List.getElem?_replicate] at e
      split at e
      · rename_i hl
        cases e
        refine ⟨none, ?_, trivial⟩
        show (List.replicate (N.length - 1) none)[i]? = _
        rw [List.getElem?_replicate, if_pos (by omega)]
      · cases e
/-! ### told -/
/-- the name of an error that is let out, or what is told -/
def dTold (cs : List Str) (fa : En → R PD) : En → R PD := fun en => match fa en with
  | .ok d => .ok d
  | .exc c => if c ∈ cs then .ok (.str c) else .stuck
  | .stuck => .stuck
def eTold (cl : Str → Addr) (cs : List Str) (Q : VK) : XK := fun cls d H => ∃ c, c ∈ cs ∧ cls = .ref (cl c) ∧ d = none ∧ LamX.Tabs Tabl.T H ∧ ∀ H2, Xt H H2 → Q (.str c) H2
def tTold (cl : Str → Addr) (cs : List Str) (tb : XK → TE) : TE := fun σ H Q => LamX.Tabs Tabl.T H ∧ ∀ H1, LamX.ExtN H H1 → LamX.Tabs Tabl.T H1 → tb (eTold cl cs Q) σ H1 Q
theorem xt_lam {H H1 : Hp} (e : LamX.ExtN H H1) (t : LamX.Tabs Tabl.T H1) : Xt H H1 := ⟨⟨fun a o h n => e a o h fun ps z => by
  rw [z] at n
  cases n⟩, fun _ => t⟩
theorem ed_told {C : Cn} {cs : List Str} {tb : XK → TE} {fa : En → R PD} (h : ∀ E, EdS ⟨C.K, E, C.cl⟩ (tb E) fa) : EdS C (tTold C.cl cs tb) (dTold cs fa) := fun H0 ext reg en σ H rs Q w => by
  refine ⟨rs.tb, fun H1 e1 t1 => ?_⟩
  have x1 := xt_lam e1 t1
  refine h (eTold C.cl cs Q) H0 ext reg en σ H1 (rs.ex x1) Q ?_
  unfold dTold at w
  generalize fa en = r at w ⊢
  cases r with
  | ok d => exact WrS.ex w x1
  | exc c =>
    dsimp only at w
    split at w
    · rename_i hc
      exact fun H2 e2 => ⟨c, hc, rfl, rfl, e2.t (rs.ex x1).tb, fun H3 e3 => w _ H3 ((x1.trans e2).trans e3) (.str _)⟩
    · exact w.elim
  | stuck => exact w.elim
end Dn

/-! told(lambda: e), as one expression. -/
namespace Dn
open PySem PySem.Spec PyProof.Rows L2 L2H HotX
variable [Tabl]
/-- the def that names a caught error by its class -/
structure Wrd (P : Program) (w : World) (K : PySem.W.Frag) (mg : Str → Option Value) (base : Heap) (cl : Str → Addr) (cs : List Str) (k : Nat) : Prop where
  ex : ∃ (st : Stmt) (f : Addr) (fd : FuncData) (N : List Str), Fun K "_law_word" "_law_word" st f fd ∧ FnScope N ["e"] (defScope st) ∧ mg "_law_word" = some (.ref f) ∧ Binds K fd ["e"] [] ∧
    ∀ c ∈ cs, ∀ (E : XK) (A : Around) (outer : List Env) (s : Shared) (H : Hp) (Q : VK) (cdv : Value) (p : Addr × Obj), Hot1 A p → p.2.cls = .ref (cl c) → p.2.dict = none → RoomH k (A.deeper (envOfC "_law_word" (defScope st) s.heap.objs.size f cdv)) →
      LamX.Tabs Tabl.T H → (∀ H2, Xt H H2 → Q (.str c) H2) →
      ∃ t, PSs (cxH (L2N.CX P w) P w K mg base N "_law_word" (defScope st) f cdv A outer s H E p) (defBody st) t ∧ t { nx := fun _ H' => Q .non H', rt := Q } (L2.start N [.ref p.1]) H
/-- .. as its denotation tells -/
theorem wrd_by {P : Program} {w : World} {K : PySem.W.Frag} {mg : Str → Option Value} {base : Heap} {cl : Str → Addr} {cs : List Str} {k : Nat} {st : Stmt} {f : Addr} {fd : FuncData} {N : List Str} {bw : Str → Addr → En → R Fl}
    (F : Fun K "_law_word" "_law_word" st f fd) (S : FnScope N ["e"] (defScope st)) (hm : mg "_law_word" = some (.ref f)) (hb : Binds K fd ["e"] []) (hN : 0 < N.length)
    (hw : ∀ c ∈ cs, ∀ a, runW N.length (bw c a) a = .ok (.str c))
    (hd : ∀ c ∈ cs, ∀ (E : XK) (A : Around) (outer : List Env) (s : Shared) (H : Hp) (cdv : Value) (p : Addr × Obj), Hot1 A p → p.2.cls = .ref (cl c) → p.2.dict = none → RoomH k (A.deeper (envOfC "_law_word" (defScope st) s.heap.objs.size f cdv)) →
      ∃ t, PSs (cxH (L2N.CX P w) P w K mg base N "_law_word" (defScope st) f cdv A outer s H E p) (defBody st) t ∧ Es ⟨K, E, cl⟩ t (bw c p.1)) : Wrd P w K mg base cl cs k := by
  refine ⟨st, f, fd, N, F, S, hm, hb, fun c hc E A outer s H Q cdv p hot h1 h2 hr tb q => ?_⟩
  obtain ⟨t, ht, he⟩ := hd c hc E A outer s H cdv p hot h1 h2 hr
  refine ⟨t, ht, ?_⟩
  have hn : N.length = (N.length - 1) + 1 := by omega
  refine he H (fun _ => False) (fun _ _ => False) _ _ H (RS.startX tb hn) _ ?_
  have := hw c hc p.1
  unfold runW at this
  revert this
  generalize bw c p.1 (SV.xr p.1 :: List.replicate (N.length - 1) SV.no) = r
  intro z
  cases r with
  | ok fl =>
    cases fl with
    | nx e => cases z
    | rt d =>
      cases z
      intro v H2 e2 t2 h3
      cases h3
      exact q H2 ⟨e2, fun _ => t2⟩
    | bk e => cases z
    | ct e => cases z
    | rm d e => cases z
    | rn d e => cases z
    | xm d e => cases z
    | pr i d e => cases z
  | exc c => cases z
  | stuck => cases z
/-- the def that tells what a deed tells, or the class of its error -/
structure Tld (K : PySem.W.Frag) (mg : Str → Option Value) (cl : Str → Addr) (cs : List Str) (ks : Str) (ka : Addr) : Prop where
  ex : ∃ (st : Stmt) (g : Addr) (fd : FuncData) (p1 p2 p3 p4 p5 p6 p7 p8 p9 p10 : Pos), Fun K "_law_told" "_law_told" st g fd ∧ FnScope ["deed", "e"] ["deed"] (defScope st) ∧ mg "_law_told" = some (.ref g) ∧ Binds K fd ["deed"] [] ∧
    defBody st = [.Try [.Return (some (.Call (.Name "deed" p1) [] [] p2)) p3] [.ExceptHandler (some (.Name ks p4)) (some "e") [.Return (some (.Call (.Name "_law_word" p5) [.Name "e" p6] [] p7)) p8] p9] [] [] p10] ∧
    (defScope st).names.lookup ("deed" : Str) = some .local ∧ (defScope st).names.lookup ("e" : Str) = some .local ∧ (defScope st).names.lookup ks = some .globalImplicit ∧ (defScope st).names.lookup ("_law_word" : Str) = some .globalImplicit
  nd : (ks == ("__debug__" : Str)) = false
  mks : mg ks = some (.ref ka)
  cat : ∀ c ∈ cs, PySem.W.exmOne K (.ref (cl c)) (.ref ka) = some true
theorem takesN0 {X : Cx} : L2N.Takes X (fun _ _ _ _ => False) := fun _ _ x => by
  obtain ⟨_, _, _, _, _, _, _, _, _, _, _, _, _, _, _, _, z⟩ := x
  exact z.elim
theorem pe_told {X : Cx} {cl : Str → Addr} {cs : List Str} {ks : Str} {ka c P : Addr} {k : Nat} {params : Arguments} {body : Expr} {scope : Scope} {tb : XK → TE} {p lpos pos : Pos}
    (D : Tld X.K X.mg cl cs ks ka) (W : Wrd X.prog X.w X.K X.mg X.base cl cs k) (hg : Gl X "_law_told")
    (TB : LamX.TabB X.base X.mg c P) (hcode : X.env.code = .ref c) (hmT : (P, X.env.qual ++ "<lambda>") ∈ Tabl.T) (hu : ∀ q ∈ Tabl.T, q.1 = P → q.2 = X.env.qual ++ "<lambda>") (hr : Room (k + 2) X.A) (L : LamX.LamS X.env.scope scope) (hdef : defaultsOf params X.env = ([], []))
    (hbind : ∀ (q : Str) (cl : List (Str × Addr)) (pm cv ctv : Value), bindArgs (PySem.W.kla_fn "<lambda>" q params body scope cl pm cv ctv) ⟨[], []⟩ = pure [])
    (he : ∀ (A : Around) (outer : List Env) (s : Shared) (H : Hp) (E : XK) (f c' : Addr), Room k (A.deeper (LamX.lamEnv X scope s.heap.objs.size f c')) → PE (lamN X A outer s H E scope f c') body (tb E)) :
    PE X (.Call (.Name "_law_told" p) [.Lambda params body scope lpos] [] pos) (tTold cl cs tb) := by
  obtain ⟨st, g, fd, p1, p2, p3, p4, p5, p6, p7, p8, p9, p10, F, S, hm, hb, eb, k1, k2, k3, k4⟩ := D.ex
  obtain ⟨sw, fw, fdw, Nw, Fw, Sw, mw, bw, dw⟩ := W.ex
  refine ⟨fun pins s σ H Q I ⟨hT, h⟩ => ?_⟩
  refine wpAny_Call_Name_kw (ld_glob I hg hm ?_ (by decide))
  refine PySem.W.callWith_K (h₀ := X.base) I.ok.mod.kin F.kp ?_ rfl rfl
  show wpAny _ _ (spliced ((false, eval (.Lambda params body scope lpos) X.env) :: _)) _ _ s
  refine Calls.spliced_cons (LamX.lam_make2 I TB hcode hmT hu hT hdef (L.has I.ok) fun f c' pm' ctv H1 s' J eN T1 hf nf nfr hco => Calls.spliced_nil ⟨J.kIn, ?_⟩)
  have hq := h H1 eN T1
  obtain ⟨w1, w2, w3, w4, w5, w6, cdv, w8, w9, rfl, lk, hcd⟩ := F.ex
  have rc : codeAny (model X.prog X.w) X.A (.call (.ref g) ⟨[.ref f], []⟩) (CR (L2N.CX X.prog X.w) X.stack X.prog X.w H1 s' Q E0) s' := by
    refine LamX.run_ofS (N := ["deed", "e"]) (ps := ["deed"]) (us := [.ref f]) (vs := [.ref f]) lk hcd S hr J.env0 (hb s' [.ref f] J.kIn rfl) (.cons rfl .nil) rfl fun hr' => ?_
    rw [eb]
    refine ⟨_, pss_one (L2N.ps_try_as (X := cxOf (L2N.CX X.prog X.w) X.prog X.w X.K X.mg X.base ["deed", "e"] "_law_told" (defScope st) g cdv X.A X.stack s' H1 E0) (i := 1) (c := .ref ka) (Wout := fun _ _ _ _ => False)
      (tb := fun Wx Dx σz Hz => ∃ Ec : XK, (∀ cls d σ' H', Ec cls d H' → Wx cls d σ' H') ∧ σz[0]? = some (some (.ref f)) ∧ Hz c' = some (LamX.CodeO c' (X.env.qual ++ "<lambda>")) ∧ tb Ec σ Hz Dx.rt)
      (ts := fun a cls d Dx σz Hz => ∃ x, x ∈ cs ∧ cls = .ref (cl x) ∧ d = none ∧ LamX.Tabs Tabl.T Hz ∧ (∃ σ0 : L2.St, σz = σ0.set 1 (some (.ref a))) ∧ ∀ H2, Xt Hz H2 → Dx.rt (.str x) H2)
      rfl rfl S.nd rfl k2 ⟨k3, D.nd, .inl D.mks⟩ takesN0 (fun Wx pn xe tk _ => ?_) (fun a oe cls d pn hz hfs => ?_)), ?_⟩
    · refine ⟨fun pz sz σz Hz Dx Iz ⟨Ec, hW, h1, h2, h3⟩ => ?_⟩
      have hp := pe_deed (i := 0) (p1 := p1) (p2 := p2) J L hf nf nfr (hbind _ _ _ _ _) tk hW hr' (fun A outer t HZ hr2 => he A outer t HZ Ec f c' hr2) rfl (.inl k1) (by decide) (by decide)
      exact (pss_one (ps_ret (pos := p3) hp)).run pz sz σz Hz Dx Iz ⟨h1, h2, h3⟩
    · refine ⟨fun pz sz σz Hz Dx Iz ⟨x, hx, ec, ed, tb, ⟨σ0, h0⟩, h2⟩ => ?_⟩
      have hl : σz.length = 2 := Iz.len
      have h1 : σz[1]? = some (some (.ref a)) := by
        rw [h0, List.length_set] at hl
        rw [h0, List.getElem?_set_self (by omega)]
      subst ec
      subst ed
      obtain ⟨vs, hv⟩ := hfs
      have hot : Hot1 ((cxOf (L2N.CX X.prog X.w) X.prog X.w X.K X.mg X.base ["deed", "e"] "_law_told" (defScope st) g cdv X.A X.stack s' H1 E0).suite a ((a, oe) :: pn)).A (a, oe) := ⟨rfl, vs, hv, hz.2.2 vs hv⟩
      have rH : RoomH (k + 1) ((cxOf (L2N.CX X.prog X.w) X.prog X.w X.K X.mg X.base ["deed", "e"] "_law_told" (defScope st) g cdv X.A X.stack s' H1 E0).suite a ((a, oe) :: pn)).A := ⟨hr'.dp, hr'.un⟩
      have hp := pe_hot (X := (cxOf (L2N.CX X.prog X.w) X.prog X.w X.K X.mg X.base ["deed", "e"] "_law_told" (defScope st) g cdv X.A X.stack s' H1 E0).suite a ((a, oe) :: pn)) (CX := L2N.CX X.prog X.w) (E := E0) (p := (a, oe)) (i := 1) (pos := p7) (p1 := p5) (p2 := p6)
        (G := fun H Q => LamX.Tabs Tabl.T H ∧ ∀ H2, Xt H H2 → Q (.str x) H2) Fw Sw rH List.mem_cons_self k4 mw bw passN rfl (.inl k2) (by decide) (by decide) (by decide)
        (fun H s Q cdv hG hr2 => dw x hx E0 _ _ s H Q cdv (a, oe) hot hz.1 hz.2.1 hr2 hG.1 hG.2)
      exact (pss_one (ps_ret (pos := p8) hp)).run pz sz σz Hz Dx Iz ⟨h1, tb, h2⟩
    · refine ⟨eTold cl cs Q, fun cls d σ' H' ⟨x, hx, ec, ed, tb2, hq2⟩ => ⟨true, ?_, fun _ a na => ⟨x, hx, ec, ed, tb2, ⟨σ', rfl⟩, hq2⟩, fun z => by cases z⟩, rfl, hco, hq⟩
      · rw [ec]
        exact D.cat x hx
  refine wpAny_call (codeAny_mono rc fun r s2 q => ?_)
  cases r with
  | error e => exact passN (X := X) pins σ H1 s' e s2 J q
  | ok fl =>
    cases fl with
    | ret u => exact J.after q
    | next => exact q.elim
    | brk => exact q.elim
    | cont => exact q.elim
/-! ### a def whose code object is known -/
structure FunC (K : PySem.W.Frag) (x qual : Str) (st : Stmt) (f : Addr) (fd : FuncData) (c : Addr) : Prop where
  ex : ∃ (oc : Value) (od : Option Addr) (kV doc pm : Value) (an : Option Addr) (ct : Value) (osl : Array (Option Value)),
    fd = PySem.W.fnOf x qual (defArgs st) (defBody st) (defScope st) .none kV doc pm an (.ref c) ct ∧ K.lookup f = some ⟨oc, od, .func fd, osl⟩ ∧ PySem.W.codeIn K (.ref c) qual = true
  kp : PySem.W.keepIn K (.ref f) = true
theorem FunC.f {K : PySem.W.Frag} {x qual : Str} {st : Stmt} {f : Addr} {fd : FuncData} {c : Addr} (F : FunC K x qual st f fd c) : Fun K x qual st f fd :=
  let ⟨o1, o2, o3, o4, o5, o6, o7, o8, e1, e2, e3⟩ := F.ex; ⟨⟨o1, o2, o3, o4, o5, o6, .ref c, o7, o8, e1, e2, e3⟩, F.kp⟩
theorem funC_mk {K : PySem.W.Frag} {x qual : Str} {st : Stmt} {f c : Addr} {oc : Value} {od an : Option Addr} {osl : Array (Option Value)} {kV doc pm ct : Value} (l : K.lookup f = some ⟨oc, od, .func (PySem.W.fnOf x qual (defArgs st) (defBody st) (defScope st) .none kV doc pm an (.ref c) ct), osl⟩)
    (h : PySem.W.codeIn K (.ref c) qual = true) (k : PySem.W.keepIn K (.ref f) = true) : FunC K x qual st f (PySem.W.fnOf x qual (defArgs st) (defBody st) (defScope st) .none kV doc pm an (.ref c) ct) c := ⟨⟨oc, od, kV, doc, pm, an, ct, osl, rfl, l, h⟩, k⟩
section
variable {P : Program} {w : World} {K : PySem.W.Frag} {mg : Str → Option Value} {base : Heap}
theorem okC {x qual : Str} {st : Stmt} {f c : Addr} {fd : FuncData} {N ps : List Str} {k : Nat} {sp : Sp} (F : FunC K x qual st f fd c) (S : FnScope N ps (defScope st)) (hl : ∀ vs H Q E, sp vs H Q E → vs.length = ps.length)
    (hb : ∀ (A : Around) (outer : List Env) (s : Shared) (H : Hp) (vs : List V) (Q : VK) (E : XK), Room k (A.deeper (envOfC qual (defScope st) s.heap.objs.size f (.ref c))) → sp vs H Q E →
      ∃ t, PSs (cxOf (L2N.CX P w) P w K mg base N qual (defScope st) f (.ref c) A outer s H E) (defBody st) t ∧ t { nx := fun _ H' => Q .non H', rt := Q } (L2.start N vs) H) : FnOk P w K mg base (L2N.CX P w) (k + 1) f fd ps sp := by
  obtain ⟨v1, v2, v3, v4, v5, v6, v8, v9, rfl, h1, h2⟩ := F.ex
  exact fn_of h1 h2 S hl fun A outer s H vs Q E r q => hb A outer s H vs Q E r q
theorem def_okC {x qual : Str} {st : Stmt} {f c : Addr} {fd : FuncData} {N ps : List Str} {k : Nat} {cl : Str → Addr} {body : En → R Fl} (F : FunC K x qual st f fd c) (S : FnScope N ps (defScope st))
    (hb : ∀ (A : Around) (outer : List Env) (s : Shared) (H : Hp) (E : XK), Room k (A.deeper (envOfC qual (defScope st) s.heap.objs.size f (.ref c))) →
      ∃ t, PSs (cxOf (L2N.CX P w) P w K mg base N qual (defScope st) f (.ref c) A outer s H E) (defBody st) t ∧ Es ⟨K, E, cl⟩ t body) :
    FnOk P w K mg base (L2N.CX P w) (k + 1) f fd ps (spF K cl ps.length (runB N.length body)) := by
  refine okC F S (fun vs H Q E h => h.choose_spec.choose_spec.1) fun A outer s H vs Q E hr h => ?_
  obtain ⟨t, ht, hs⟩ := hb A outer s H E hr
  refine ⟨t, ht, ?_⟩
  obtain ⟨ext, ds, hl, htb, hx, hv, wr⟩ := h
  refine hs H ext (fun _ _ => False) _ _ H (RS.start htb hx hv) _ ?_
  unfold runB at wr
  generalize body (ds.map SV.sh ++ List.replicate (N.length - ds.length) SV.no) = r at wr ⊢
  cases r with
  | ok fl =>
    cases fl with
    | nx e => exact fun reg σ H2 r2 => wr .non H2 ⟨r2.le, fun _ => r2.tb⟩ .non
    | rt d => exact fun v H2 e2 tb h2 => wr v H2 ⟨e2, fun _ => tb⟩ h2
    | bk e => exact wr.elim
    | ct e => exact wr.elim
    | rm d e => exact wr.elim
    | rn d e => exact wr.elim
    | xm d e => exact wr.elim
    | pr i d e => exact wr.elim
  | exc c => exact fun H2 e2 tb => wr H2 ⟨e2, fun _ => tb⟩
  | stuck => exact wr.elim
theorem law_okC {st : Stmt} {f c : Addr} {fd : FuncData} {N : List Str} {k : Nat} {cl : Str → Addr} {body : En → R Fl} (F : FunC K "law" "law" st f fd c) (S : FnScope N ["script"] (defScope st))
    (hb : ∀ (A : Around) (outer : List Env) (s : Shared) (H : Hp) (E : XK), Room k (A.deeper (envOfC "law" (defScope st) s.heap.objs.size f (.ref c))) →
      ∃ t, PSs (cxOf (L2N.CX P w) P w K mg base N "law" (defScope st) f (.ref c) A outer s H E) (defBody st) t ∧ Es ⟨K, E, cl⟩ t body)
    (hN : 0 < N.length) (hd : ∀ ns : List Int, ns.length ≤ 63 → runL N.length body ns = .ok (.bool true)) :
    FnOk P w K mg base (L2N.CX P w) (k + 1) f fd ["script"] (spLaw K) := by
  refine okC F S (fun vs H Q E ⟨_, _, h, _⟩ => by rw [h]; rfl) fun A outer s H vs Q E hr h => ?_
  obtain ⟨t, ht, hs⟩ := hb A outer s H E hr
  refine ⟨t, ht, ?_⟩
  obtain ⟨a, ns, rfl, hq, hl, htb, q⟩ := h
  have hN2 : N.length = (N.length - 1) + 1 := by omega
  refine hs H (fun _ => False) (fun _ _ => False) _ _ H (RS.startL htb hN2 hq) _ ?_
  have hd := hd ns hl
  unfold runL at hd
  revert hd
  generalize body (SV.rl (ns.map PyData.int) :: List.replicate (N.length - 1) SV.no) = r
  intro hd
  cases r with
  | ok fl =>
    cases fl with
    | nx e => cases hd
    | rt d =>
      cases hd
      intro v H2 e2 _ h2
      cases h2
      exact q H2
    | bk e => cases hd
    | ct e => cases hd
    | rm d e => cases hd
    | rn d e => cases hd
    | xm d e => cases hd
    | pr i d e => cases hd
  | exc c => cases hd
  | stuck => cases hd
end
/-! ### the end, with the tables of the defs that hold lambdas -/
theorem walk_T {l : PySem.W.OpenLaw} {n k : Nat} {q : Program} {loose : List Str} {XP : (Str → Option Value) → Heap → Prop} {YP : World → Heap → Prop} {d : DefRec} {K : Params → PySem.W.Frag} {CX : World → CXT} {x : Str}
    (hn : l.most = some n) (hn2 : n ≤ sizeLine) (hdf : d.params.defaults = []) (hr : Room k callerA) (hY : ∀ (w : World) (h : Heap), YP w h → (K w.params).In h)
    (F : ∀ (w : World) (mg : Str → Option Value) (fa : Addr) (h : Heap), YP w h → (K w.params).In h → h.Ns mainGlobals mg → mg d.name = some (.ref fa) →
      (∀ (y : Str) (c P : Addr) (e : DefRec), (recsOf q).find? (fun e => e.name == y) = some e → PySem.W.tabIn (K w.params) y = some (c, P) → PySem.W.CodeHd h c P ∧ h.get? P = some { cls := .none, data := .fields #[] }) → LamX.LawAtS l w (K w.params) (CX w) k n x mg fa h)
    (hCX : ∀ (w : World) (H : Hp) (s : Shared) (e : Value) (s' : Shared), CX w [] H s (fun _ _ _ => False) e s' → False) :
    PySem.W.WalkO q loose XP YP l.row.toRowW d [] (fun f vs => PySem.call f vs) := by
  refine Att.attach_callB hn hdf fun w t0 t1 mg mb fa o pm cd doc a vs ns G Y h1 h2 h3 hmg hobj hints hlen hbits hg => ?_
  have inK := hY w _ Y
  obtain ⟨fd, cs, sp, f1, f2, f3, f4, f5, f6⟩ := F w mg fa _ Y inK G.T.g hmg fun y c P e hr ht => PySem.W.tab_of G.T inK hr ht
  exact LamX.law_callTs inK G.T.g G.T.b G.T.builtins G.T.nolimit hg f1 f2 f3 G.T.bmain hobj hints (Nat.le_trans hlen hn2) hr f6 f4 (fun H hH hS => f5 H a ns hlen hbits hH hS) fun H e s' => hCX w H t1 e s'
end Dn

/-! is; dict displays; get; dict(..). -/
namespace Dn
open PySem L2
variable [Tabl]
/-! ### is, is not -/
def rIsA : R2 := rOr (fun x y H Q => y = .non ∧ Q (.bl (decide (x = .non))) H) (fun x y H Q => ∃ a b, x = .bl a ∧ y = .bl b ∧ Q (.bl (decide (a = b))) H)
def rNotA : R2 := rOr (fun x y H Q => y = .non ∧ Q (.bl (!decide (x = .non))) H) (fun x y H Q => ∃ a b, x = .bl a ∧ y = .bl b ∧ Q (.bl (!decide (a = b))) H)
theorem op_isA {X : Cx} : OpR X (compareOp .Is) rIsA := opOr op_isN op_is_bl
theorem op_notA {X : Cx} : OpR X (compareOp .IsNot) rNotA := opOr op_notN op_isnot_bl
def isN : PD → Bool
  | .none => true
  | _ => false
def isD : PD → PD → R PD
  | x, .none => .ok (.bool (isN x))
  | .bool a, .bool b => .ok (.bool (decide (a = b)))
  | _, _ => .stuck
def isnD : PD → PD → R PD
  | x, .none => .ok (.bool (!isN x))
  | .bool a, .bool b => .ok (.bool (!decide (a = b)))
  | _, _ => .stuck
theorem RpL.isN {K : PySem.W.Frag} {Hs H : Hp} {v : V} {d : PD} (h : RpL K Hs H v d) : decide (v = .non) = Dn.isN d := by
  cases h with
  | s h => cases h <;> simp [Dn.isN]
  | l h => simp [Dn.isN]
  | d h => simp [Dn.isN]
section
variable {C : Cn}
theorem o_is : Op2 C rIsA isD := fun Y Z H v w x y Q hyz hz hx hy q => by
  unfold isD at q
  split at q
  · exact .inl ⟨hy.non, by rw [hx.isN]; exact q _ H (Xt.refl H) (.bl _)⟩
  · exact .inr ⟨_, _, hx.bl, hy.bl, q _ H (Xt.refl H) (.bl _)⟩
  · exact q.elim
theorem o_isn : Op2 C rNotA isnD := fun Y Z H v w x y Q hyz hz hx hy q => by
  unfold isnD at q
  split at q
  · exact .inl ⟨hy.non, by rw [hx.isN]; exact q _ H (Xt.refl H) (.bl _)⟩
  · exact .inr ⟨_, _, hx.bl, hy.bl, q _ H (Xt.refl H) (.bl _)⟩
  · exact q.elim
end
/-! ### displays of dicts -/
inductive RpP (K : PySem.W.Frag) (H : Hp) : List (V × V) → List (PD × PD) → Prop
  | nil : RpP K H [] []
  | cons {x y : V} {ps : List (V × V)} {k d : PD} {es : List (PD × PD)} : Rp K H x k → Rp K H y d → RpP K H ps es → RpP K H ((x, y) :: ps) ((k, d) :: es)
theorem RpP.mono {K : PySem.W.Frag} {H H' : Hp} (e : LeR K H H') : ∀ {ps : List (V × V)} {es : List (PD × PD)}, RpP K H ps es → RpP K H' ps es
  | _, _, .nil => .nil
  | _, _, .cons h g r => .cons (h.mono e) (g.mono e) (RpP.mono e r)
def WrQ (C : Cn) (Z : AS) (H : Hp) (Q : List (V × V) → Hp → Prop) : R (List (PD × PD)) → Prop
  | .ok es => ∀ ps H2, Xt H H2 → RpP C.K (hid H2 Z) ps es → Q ps H2
  | .exc c => ∀ H2, Xt H H2 → C.E (.ref (C.cl c)) none H2
  | .stuck => False
def EdQ (C : Cn) (trs : List (TE × TE)) (f : En → R (List (PD × PD))) : Prop := ∀ (H0 : Hp) (ext : AS) (reg : Nat → AS) (en : En) (σ : L2.St) (H : Hp), RS C.K H0 ext reg en σ H → ∀ Q, WrQ C (own ext reg) H Q (f en) → tPairs trs σ H Q
def dqNil : En → R (List (PD × PD)) := fun _ => .ok []
def dqCons (fk fv : En → R PD) (fr : En → R (List (PD × PD))) : En → R (List (PD × PD)) := fun en => (fk en).bind fun k => (fv en).bind fun v => (fr en).bind fun r => .ok ((k, v) :: r)
theorem WrQ.ex {C : Cn} {Z : AS} {H H1 : Hp} {Q : List (V × V) → Hp → Prop} {r : R (List (PD × PD))} (w : WrQ C Z H Q r) (e : Xt H H1) : WrQ C Z H1 Q r := by
  cases r with
  | ok d => exact fun v H2 e2 h => w v H2 (e.trans e2) h
  | exc c => exact fun H2 e2 => w H2 (e.trans e2)
  | stuck => exact w
section
variable {C : Cn} {tk tv : TE} {fk fv : En → R PD} {trs : List (TE × TE)} {fr : En → R (List (PD × PD))}
theorem eq_nil : EdQ C [] dqNil := fun H0 ext reg en σ H rs Q w => w [] H (Xt.refl H) .nil
theorem eq_cons (hk : EdS C tk fk) (hv : EdS C tv fv) (hr : EdQ C trs fr) : EdQ C ((tk, tv) :: trs) (dqCons fk fv fr) := fun H0 ext reg en σ H rs Q w =>
  hk.seq rs (W := WrQ C (own ext reg) H Q) w (fun _ q => q) (fun q => q) fun k x H2 e2 r2 h2 w2 =>
    hv.seq r2 (W := WrQ C (own ext reg) H2 Q) (w2.ex e2) (fun _ q => q) (fun q => q) fun v y H3 e3 r3 h3 w3 => by
      refine hr H0 ext reg en σ H3 r3 _ ?_
      have w4 := WrQ.ex w3 e3
      generalize fr en = z at w4 ⊢
      cases z with
      | ok es => exact fun ps H4 e4 h4 => w4 _ H4 e4 (.cons (h2.mono (e3.trans e4).toEx.hid.le) (h3.mono e4.toEx.hid.le) h4)
      | exc c => exact w4
      | stuck => exact w4
def mergeD : List (PD × PD) → List (PD × PD) → Option (List (PD × PD))
  | es, [] => some es
  | es, (k, v) :: r => match kOf k with
    | some k => mergeD (putD es k v) r
    | none => none
theorem rpp_merge {K : PySem.W.Frag} {H : Hp} : ∀ {ps : List (V × V)} {es : List (PD × PD)} {acc : List (Key × V)} {ea out : List (PD × PD)}, RpP K H ps es → RpK K H acc ea → mergeD ea es = some out →
    ∃ kvs : List (Key × V), ps = kvs.map (fun kv => (kV kv.1, kv.2)) ∧ kvs.length = es.length ∧ RpK K H (mergeK acc kvs) out
  | _, _, acc, ea, out, .nil, ha, h => by
    cases h
    exact ⟨[], rfl, rfl, ha⟩
  | _, _, acc, ea, out, .cons (k := k) hx hy r, ha, h => by
    unfold mergeD at h
    split at h
    · rename_i k0 ek
      obtain ⟨kvs, h1, h2, h3⟩ := rpp_merge r (ha.put k0 hy) h
      refine ⟨(k0, _) :: kvs, ?_, by simp [h2], h3⟩
      rw [h1, (RpL.s (H := H) hx).key ek]
      rfl
    · cases h
theorem kmap_inj : ∀ {a b : List (Key × V)}, a.map (fun kv => (kV kv.1, kv.2)) = b.map (fun kv => (kV kv.1, kv.2)) → a = b
  | [], [], _ => rfl
  | [], _ :: _, h => by simp at h
  | _ :: _, [], h => by simp at h
  | (k, v) :: a, (k', v') :: b, h => by
    simp only [List.map_cons, List.cons.injEq, Prod.mk.injEq] at h
    obtain ⟨⟨h1, h2⟩, h3⟩ := h
    have : k = k' := by cases k <;> cases k' <;> simp [kV] at h1 <;> rw [h1]
    rw [this, h2, kmap_inj h3]
def dispD (es : List (PD × PD)) : R PD := if es.length ≤ 15 then match mergeD [] es with
  | some out => .ok (.dict out)
  | none => .stuck
  else .stuck
def dDisp (f : En → R (List (PD × PD))) : En → R PD := fun en => (f en).bind dispD
theorem ed_disp (h : EdQ C trs fr) : EdS C (tDisp trs) (dDisp fr) := fun H0 ext reg en σ H rs Q w => fun p hp => by
  have x0 : Xt H (upd H p (.dK [])) := Xt.new hp
  refine h _ _ reg en σ _ (rs.alien (o := .dK []) hp) _ ?_
  unfold dDisp at w
  generalize fr en = z at w ⊢
  cases z with
  | exc c => exact fun H2 e2 => w H2 (x0.trans e2)
  | stuck => exact w.elim
  | ok es =>
    simp only [R.bind_ok] at w
    unfold dispD at w
    split at w
    · rename_i hl
      split at w
      · rename_i out eo
        intro ps H2 e2 hps
        have h2 : H2 p = some (.dK []) := e2.k _ _ upd_same rfl
        have np : ¬ own ext reg p := rs.fresh hp
        have sub : Ex (hid H2 (own (fun a => ext a ∨ a = p) reg)) (hid (upd H2 p (.dK [])) (own ext reg)) := Ex.of fun a o q => by
          obtain ⟨z, q⟩ := hid_some q
          have ne : a ≠ p := fun e => z (.inl (.inr e))
          rw [hid_at fun t => by
            rcases t with t | t
            · exact z (.inl (.inl t))
            · exact z (.inr t), upd_ne ne]
          exact q
        refine ⟨h2, ?_⟩
        obtain ⟨kvs, k1, k2, _⟩ := rpp_merge hps .nil eo
        refine ⟨kvs, k1, by rw [k2]; exact hl, ?_⟩
        have sub2 : Ex (hid H2 (own (fun a => ext a ∨ a = p) reg)) (hid (upd H2 p (.dK (mergeK [] kvs))) (own ext reg)) := Ex.of fun a o q => by
          obtain ⟨z, q⟩ := hid_some q
          have ne : a ≠ p := fun e => z (.inl (.inr e))
          rw [hid_at fun t => by
            rcases t with t | t
            · exact z (.inl (.inl t))
            · exact z (.inr t), upd_ne ne]
          exact q
        refine w _ _ ⟨⟨fun a o ha n => ?_⟩, fun t => tabs_wr (e2.t (x0.t t)) h2 rfl fun a ha => upd_ne ha⟩ ?_
        · have ne : a ≠ p := fun e => by
            rw [e, hp] at ha
            cases ha
          rw [upd_ne ne]
          exact e2.k a o (by rw [upd_ne ne]; exact ha) n
        · obtain ⟨kvs', k1', _, k3'⟩ := rpp_merge (hps.mono sub2.le) .nil eo
          have ek : kvs' = kvs := kmap_inj (k1'.symm.trans k1)
          rw [ek] at k3'
          exact .dct (.inl (by rw [hid_at np]; exact upd_same)) k3'
      · exact w.elim
    · exact w.elim
def dNewD : En → R PD := fun _ => .ok (.dict [])
theorem ed_dnew : EdS C tDNewK dNewD := fun H0 ext reg en σ H rs Q w => fun p hp =>
  w _ _ (Xt.new hp) (.dct (.inl (by rw [hid_at fun z => rs.fresh hp z]; exact upd_same)) .nil)
end
/-! ### d.get(k, x) -/
def getD2 : PD → PD → PD → R PD
  | .dict es, k, x => match kOf k with
    | some k => .ok ((lookD es k).getD x)
    | none => .stuck
  | _, _, _ => .stuck
def dGet2 (fd fk fx : En → R PD) : En → R PD := fun en => (fd en).bind fun d => match d with
  | .dict es => (fk en).bind fun k => (fx en).bind fun x => getD2 (.dict es) k x
  | _ => .stuck
section
variable {C : Cn} {td tk tx : TE} {fd fk fx : En → R PD}
theorem ed_get2 (hd : EdL C td fd) (hk : EdL C tk fk) (hx : EdS C tx fx) : EdS C (tDGet2 td tk tx) (dGet2 fd fk fx) := fun H0 ext reg en σ H rs Q w =>
  hd.seq rs (W := WrS C (own ext reg) H Q) w (fun _ q => q) (fun q => q) fun d v H2 e2 r2 h2 w2 => by
    cases d with
    | dict es =>
      obtain ⟨p, kvs, rfl, hp, hr⟩ := h2.dct fun a z => .inl z
      refine ⟨p, rfl, .inl ⟨kvs, hp⟩, hk.seq r2 (W := WrS C (own ext reg) H2 Q) (WrS.ex w2 e2) (fun _ q => q) (fun q => q) fun k y H3 e3 r3 h3 w3 =>
        hx.seq r3 (W := WrS C (own ext reg) H3 Q) (WrS.ex w3 e3) (fun _ q => q) (fun q => q) fun x z H4 e4 r4 h4 w4 => ?_⟩
      have hp4 : Rd H4 p (.dK kvs) := (e3.trans e4).toEx.rd hp
      have hr4 := hr.mono (e3.trans e4).toEx.hid.le
      unfold getD2 at w4
      dsimp only at w4
      split at w4
      · rename_i k0 ek
        refine ⟨valV kvs k0, .inl ⟨kvs, k0, hp4, h3.key ek, rfl⟩, ?_⟩
        obtain ⟨g1, g2⟩ := hr4.look k0
        cases el : lookD es k0 with
        | none =>
          rw [g2 el]
          rw [el] at w4
          exact w4 _ H4 e4 h4
        | some u =>
          obtain ⟨v0, a1, a2⟩ := g1 u el
          rw [a1]
          rw [el] at w4
          exact w4 _ H4 e4 a2
      · exact w4.elim
    | _ => exact w2.elim
end
/-! ### rows: displays of few things -/
@[simp] theorem mkL_4 (a0 a1 a2 a3 : PD) : mkL [a0, a1, a2, a3] = .ok (.list [a0, a1, a2, a3]) := mkL_ok _ (by show 4 ≤ 1000000; decide)
@[simp] theorem mkL_6 (a0 a1 a2 a3 a4 a5 : PD) : mkL [a0, a1, a2, a3, a4, a5] = .ok (.list [a0, a1, a2, a3, a4, a5]) := mkL_ok _ (by show 6 ≤ 1000000; decide)
@[simp] theorem mkL_7 (a0 a1 a2 a3 a4 a5 a6 : PD) : mkL [a0, a1, a2, a3, a4, a5, a6] = .ok (.list [a0, a1, a2, a3, a4, a5, a6]) := mkL_ok _ (by show 7 ≤ 1000000; decide)
@[simp] theorem mkL_8 (a0 a1 a2 a3 a4 a5 a6 a7 : PD) : mkL [a0, a1, a2, a3, a4, a5, a6, a7] = .ok (.list [a0, a1, a2, a3, a4, a5, a6, a7]) := mkL_ok _ (by show 8 ≤ 1000000; decide)
@[simp] theorem mkL_9 (a0 a1 a2 a3 a4 a5 a6 a7 a8 : PD) : mkL [a0, a1, a2, a3, a4, a5, a6, a7, a8] = .ok (.list [a0, a1, a2, a3, a4, a5, a6, a7, a8]) := mkL_ok _ (by show 9 ≤ 1000000; decide)
@[simp] theorem mkL_10 (a0 a1 a2 a3 a4 a5 a6 a7 a8 a9 : PD) : mkL [a0, a1, a2, a3, a4, a5, a6, a7, a8, a9] = .ok (.list [a0, a1, a2, a3, a4, a5, a6, a7, a8, a9]) := mkL_ok _ (by show 10 ≤ 1000000; decide)
@[simp] theorem mkL_11 (a0 a1 a2 a3 a4 a5 a6 a7 a8 a9 a10 : PD) : mkL [a0, a1, a2, a3, a4, a5, a6, a7, a8, a9, a10] = .ok (.list [a0, a1, a2, a3, a4, a5, a6, a7, a8, a9, a10]) := mkL_ok _ (by show 11 ≤ 1000000; decide)
@[simp] theorem mkL_12 (a0 a1 a2 a3 a4 a5 a6 a7 a8 a9 a10 a11 : PD) : mkL [a0, a1, a2, a3, a4, a5, a6, a7, a8, a9, a10, a11] = .ok (.list [a0, a1, a2, a3, a4, a5, a6, a7, a8, a9, a10, a11]) := mkL_ok _ (by show 12 ≤ 1000000; decide)
@[simp] theorem mkL_13 (a0 a1 a2 a3 a4 a5 a6 a7 a8 a9 a10 a11 a12 : PD) : mkL [a0, a1, a2, a3, a4, a5, a6, a7, a8, a9, a10, a11, a12] = .ok (.list [a0, a1, a2, a3, a4, a5, a6, a7, a8, a9, a10, a11, a12]) := mkL_ok _ (by show 13 ≤ 1000000; decide)
@[simp] theorem mkL_14 (a0 a1 a2 a3 a4 a5 a6 a7 a8 a9 a10 a11 a12 a13 : PD) : mkL [a0, a1, a2, a3, a4, a5, a6, a7, a8, a9, a10, a11, a12, a13] = .ok (.list [a0, a1, a2, a3, a4, a5, a6, a7, a8, a9, a10, a11, a12, a13]) := mkL_ok _ (by show 14 ≤ 1000000; decide)
@[simp] theorem mkL_15 (a0 a1 a2 a3 a4 a5 a6 a7 a8 a9 a10 a11 a12 a13 a14 : PD) : mkL [a0, a1, a2, a3, a4, a5, a6, a7, a8, a9, a10, a11, a12, a13, a14] = .ok (.list [a0, a1, a2, a3, a4, a5, a6, a7, a8, a9, a10, a11, a12, a13, a14]) := mkL_ok _ (by show 15 ≤ 1000000; decide)
@[simp] theorem mkL_16 (a0 a1 a2 a3 a4 a5 a6 a7 a8 a9 a10 a11 a12 a13 a14 a15 : PD) : mkL [a0, a1, a2, a3, a4, a5, a6, a7, a8, a9, a10, a11, a12, a13, a14, a15] = .ok (.list [a0, a1, a2, a3, a4, a5, a6, a7, a8, a9, a10, a11, a12, a13, a14, a15]) := mkL_ok _ (by show 16 ≤ 1000000; decide)
@[simp] theorem mkL_17 (a0 a1 a2 a3 a4 a5 a6 a7 a8 a9 a10 a11 a12 a13 a14 a15 a16 : PD) : mkL [a0, a1, a2, a3, a4, a5, a6, a7, a8, a9, a10, a11, a12, a13, a14, a15, a16] = .ok (.list [a0, a1, a2, a3, a4, a5, a6, a7, a8, a9, a10, a11, a12, a13, a14, a15, a16]) := mkL_ok _ (by show 17 ≤ 1000000; decide)
@[simp] theorem mkL_18 (a0 a1 a2 a3 a4 a5 a6 a7 a8 a9 a10 a11 a12 a13 a14 a15 a16 a17 : PD) : mkL [a0, a1, a2, a3, a4, a5, a6, a7, a8, a9, a10, a11, a12, a13, a14, a15, a16, a17] = .ok (.list [a0, a1, a2, a3, a4, a5, a6, a7, a8, a9, a10, a11, a12, a13, a14, a15, a16, a17]) := mkL_ok _ (by show 18 ≤ 1000000; decide)
@[simp] theorem mkL_19 (a0 a1 a2 a3 a4 a5 a6 a7 a8 a9 a10 a11 a12 a13 a14 a15 a16 a17 a18 : PD) : mkL [a0, a1, a2, a3, a4, a5, a6, a7, a8, a9, a10, a11, a12, a13, a14, a15, a16, a17, a18] = .ok (.list [a0, a1, a2, a3, a4, a5, a6, a7, a8, a9, a10, a11, a12, a13, a14, a15, a16, a17, a18]) := mkL_ok _ (by show 19 ≤ 1000000; decide)
@[simp] theorem mkT_0 : mkT [] = .ok (.tuple []) := mkT_ok _ (by show 0 ≤ 1000000; decide)
@[simp] theorem mkT_1 (a : PD) : mkT [a] = .ok (.tuple [a]) := mkT_ok _ (by show 1 ≤ 1000000; decide)
@[simp] theorem chk_1 (a0 : PD) : chk [a0] = .ok [a0] := chk_ok _ (by show 1 ≤ 1000000; decide)
@[simp] theorem chk_2 (a0 a1 : PD) : chk [a0, a1] = .ok [a0, a1] := chk_ok _ (by show 2 ≤ 1000000; decide)
@[simp] theorem chk_3 (a0 a1 a2 : PD) : chk [a0, a1, a2] = .ok [a0, a1, a2] := chk_ok _ (by show 3 ≤ 1000000; decide)
@[simp] theorem chk_4 (a0 a1 a2 a3 : PD) : chk [a0, a1, a2, a3] = .ok [a0, a1, a2, a3] := chk_ok _ (by show 4 ≤ 1000000; decide)
@[simp] theorem chk_5 (a0 a1 a2 a3 a4 : PD) : chk [a0, a1, a2, a3, a4] = .ok [a0, a1, a2, a3, a4] := chk_ok _ (by show 5 ≤ 1000000; decide)
@[simp] theorem chk_6 (a0 a1 a2 a3 a4 a5 : PD) : chk [a0, a1, a2, a3, a4, a5] = .ok [a0, a1, a2, a3, a4, a5] := chk_ok _ (by show 6 ≤ 1000000; decide)
@[simp] theorem chk_7 (a0 a1 a2 a3 a4 a5 a6 : PD) : chk [a0, a1, a2, a3, a4, a5, a6] = .ok [a0, a1, a2, a3, a4, a5, a6] := chk_ok _ (by show 7 ≤ 1000000; decide)
@[simp] theorem chk_8 (a0 a1 a2 a3 a4 a5 a6 a7 : PD) : chk [a0, a1, a2, a3, a4, a5, a6, a7] = .ok [a0, a1, a2, a3, a4, a5, a6, a7] := chk_ok _ (by show 8 ≤ 1000000; decide)
@[simp] theorem chk_9 (a0 a1 a2 a3 a4 a5 a6 a7 a8 : PD) : chk [a0, a1, a2, a3, a4, a5, a6, a7, a8] = .ok [a0, a1, a2, a3, a4, a5, a6, a7, a8] := chk_ok _ (by show 9 ≤ 1000000; decide)
section
variable {fa fb fo fd fk fx fv : En → R PD} {fr : En → R (List (PD × PD))} {en : En}
@[simp] theorem dIdx_ap : dIdx fo fa en = (fo en).bind fun x => match x with
  | .list ds => (fa en).bind fun y => idxD ds y
  | _ => .stuck := nrf rfl
@[simp] theorem dIs_self (a : Addr) (b : Bool) (r : En) : dIs 0 a b (.xr a :: r) = .ok (.bool b) := by
  show (if a = a then R.ok (PyData.bool b) else .stuck) = _
  rw [if_pos rfl]
@[simp] theorem dqNil_ap : dqNil en = .ok [] := nrf rfl
@[simp] theorem dqCons_ap : dqCons fk fv fr en = (fk en).bind fun k => (fv en).bind fun v => (fr en).bind fun r => .ok ((k, v) :: r) := nrf rfl
@[simp] theorem dDisp_ap : dDisp fr en = (fr en).bind dispD := nrf rfl
@[simp] theorem dNewD_ap : dNewD en = .ok (.dict []) := nrf rfl
@[simp] theorem dGet2_ap : dGet2 fd fk fx en = (fd en).bind fun d => match d with
  | .dict es => (fk en).bind fun k => (fx en).bind fun x => getD2 (.dict es) k x
  | _ => .stuck := nrf rfl
theorem dTold_ok {cs : List Str} {d : PD} (h : fa en = .ok d) : dTold cs fa en = .ok d := by
  unfold dTold
  rw [h]
theorem dTold_exc {cs : List Str} {c : Str} (h : fa en = .exc c) (hc : c ∈ cs) : dTold cs fa en = .ok (.str c) := by
  unfold dTold
  rw [h]
  dsimp only
  rw [if_pos hc]
@[simp] theorem isD_none (x : PD) : isD x .none = .ok (.bool (isN x)) := by unfold isD; cases x <;> rfl
@[simp] theorem isnD_none (x : PD) : isnD x .none = .ok (.bool (!isN x)) := by unfold isnD; cases x <;> rfl
@[simp] theorem isD_bool (a b : Bool) : isD (.bool a) (.bool b) = .ok (.bool (decide (a = b))) := nrf rfl
@[simp] theorem isnD_bool (a b : Bool) : isnD (.bool a) (.bool b) = .ok (.bool (!decide (a = b))) := nrf rfl
end
end Dn

/-! A text times a number. -/
namespace Dn
open PySem L2
variable [Tabl]
def repS (z : Str) (k : Int) : Str := st (List.replicate k.toNat z.cps.toList).flatten
def rRepS : R2 := fun x y H Q => ∃ z k, x = .str z ∧ y = .int k ∧ (2 ≤ k ∧ k < 1000 ∧ 1 ≤ z.length) ∧ z.length * k.toNat ≤ sizeLine ∧ Q (.str (repS z k)) H
theorem foldl_cps (a : Array Nat) : ∀ (n : Nat) (acc : Array Nat), (List.replicate n a).foldl (· ++ ·) acc = acc ++ (List.replicate n a.toList).flatten.toArray
  | 0, acc => by simp
  | n + 1, acc => by
    rw [List.replicate_succ, List.foldl_cons, foldl_cps a n, List.replicate_succ, List.flatten_cons]
    rw [Array.append_assoc]
    congr 1
    apply Array.ext'
    simp
theorem rep_len (l : List Nat) : ∀ n : Nat, (List.replicate n l).flatten.length = n * l.length
  | 0 => by simp
  | n + 1 => by
    rw [List.replicate_succ, List.flatten_cons, List.length_append, rep_len l n, Nat.succ_mul]
    omega
theorem op_repS {X : Cx} : OpR X (binaryOp .Mult) rRepS := by
  intro pins s σ H x y v u Q I rx ry h
  obtain ⟨z, k, rfl, rfl, ⟨h1, h2, h3⟩, hz, q⟩ := h
  obtain ⟨t, rfl⟩ := rx
  obtain ⟨t', rfl⟩ := ry
  refine PySem.P.mul_str (by rw [Bool.or_eq_false_iff]; exact ⟨decide_eq_false (by omega), decide_eq_false (by omega)⟩) (fun _ _ => ?_) (fun _ _ => ?_) ?_
  · have hs : (sizeLine : Int) ≤ 9223372036854775807 / 1000 := by decide
    have h4 : (z.length : Int) ≤ sizeLine := by
      have : z.length * 1 ≤ z.length * k.toNat := Nat.mul_le_mul_left _ (by omega)
      omega
    have h5 : (2 ^ 63 - 1 : Int) / 1000 ≤ (2 ^ 63 - 1) / k := by
      rw [Int.le_ediv_iff_mul_le (by omega)]
      have h6 : (2 ^ 63 - 1 : Int) / 1000 * k ≤ (2 ^ 63 - 1 : Int) / 1000 * 1000 := Int.mul_le_mul_of_nonneg_left (by omega) (by decide)
      exact Int.le_trans h6 (by decide)
    have h7 : (9223372036854775807 : Int) / 1000 = (2 ^ 63 - 1 : Int) / 1000 := by decide
    omega
  · unfold Builtin.Str.tooLong
    exact decide_eq_false (by omega)
  · rw [if_neg (by omega), if_neg (by simp; omega)]
    have e : (⟨(List.replicate k.toNat z.cps).foldl (· ++ ·) #[]⟩ : Str) = repS z k := by
      rw [foldl_cps]
      unfold repS st
      simp
    rw [e]
    have hlen : (repS z k).length ≤ sizeLine := by
      unfold repS
      rw [st_len, rep_len, Nat.mul_comm]
      exact hz
    exact ⟨hlen, .str (repS z k), H, I.tok _, ⟨_, rfl⟩, q⟩
def mulS : PD → PD → R PD
  | .str z, .int k => if (2 ≤ k ∧ k < 1000 ∧ 1 ≤ z.length) ∧ z.length * k.toNat ≤ szN then .ok (.str (repS z k)) else .stuck
  | _, _ => .stuck
theorem o_mulS {C : Cn} : Op2 C rRepS mulS := fun Y Z H v w x y Q hyz hz hx hy q => by
  cases x with
  | str z =>
    cases y with
    | int k =>
      unfold mulS at q
      dsimp only at q
      split at q
      · rename_i hl
        exact ⟨z, k, hx.str, hy.int, hl.1, sz_of hl.2, q _ H (Xt.refl H) (.str _)⟩
      · exact q.elim
    | _ => exact q.elim
  | _ => exact q.elim
theorem mulS_st (l : List Nat) (k : Int) (h : 2 ≤ k ∧ k < 1000) (hl : l ≠ []) (hz : l.length ≤ 1000) : mulS (.str (st l)) (.int k) = .ok (.str (st (List.replicate k.toNat l).flatten)) := by
  have h1 : 1 ≤ l.length := List.length_pos_iff.mpr hl
  have h2 : l.length * k.toNat ≤ 1000 * 1000 := Nat.mul_le_mul hz (by omega)
  show (if (2 ≤ k ∧ k < 1000 ∧ 1 ≤ (st l).length) ∧ (st l).length * k.toNat ≤ szN then R.ok (PyData.str (repS (st l) k)) else .stuck) = _
  rw [st_len, if_pos ⟨⟨h.1, h.2, h1⟩, h2⟩]
  rfl
end Dn

/-! dict(pairs), dict(d). -/
namespace Dn
open PySem L2
variable [Tabl]
def pairsD : List PD → Option (List (PD × PD))
  | [] => some []
  | .tuple [k, v] :: r => (pairsD r).map ((k, v) :: ·)
  | _ :: _ => none
def dictPD : List PD → R PD
  | [.list ds] => match pairsD ds with
    | some es => match mergeD [] es with
      | some out => .ok (.dict out)
      | none => .stuck
    | none => .stuck
  | [.dict es] => .ok (.dict es)
  | _ => .stuck
def rDictP (K : PySem.W.Frag) : List V → Hp → VK → Prop := fun xs H Q => ∃ (a : Addr) (ps : List Addr) (kvs : List (Key × V)), xs = [.ref a] ∧ SqL K H a (ps.map V.ref) ∧ Paired (fun p kv => SqT K H p [kV kv.1, kv.2]) ps kvs ∧
    ∀ p, H p = none → Q (.ref p) (upd H p (.dK (mergeK [] kvs)))
def rDictC : List V → Hp → VK → Prop := fun xs H Q => ∃ (a : Addr) (kvs : List (Key × V)), xs = [.ref a] ∧ Rd H a (.dK kvs) ∧ ∀ p, H p = none → Q (.ref p) (upd H p (.dK kvs))
def rDictA (K : PySem.W.Frag) : List V → Hp → VK → Prop := fun xs H Q => rDictP K xs H Q ∨ rDictC xs H Q
theorem kx_dict {X : Cx} (K : PySem.W.Frag) (h : X.K = K) (hc : X.calm = true) : CallR X (.type "dict") (rDictA K) := by
  subst h
  exact callOr (call_dictP hc) call_dictD
theorem rp_pairs {K : PySem.W.Frag} {H : Hp} : ∀ {ds : List PD} {vs : List V} {es : List (PD × PD)} {acc : List (Key × V)} {ea out : List (PD × PD)}, RpA K H vs ds → pairsD ds = some es → RpK K H acc ea → mergeD ea es = some out →
    ∃ (ps : List Addr) (kvs : List (Key × V)), vs = ps.map V.ref ∧ Paired (fun p kv => SqT K H p [kV kv.1, kv.2]) ps kvs ∧ RpK K H (mergeK acc kvs) out
  | [], _, es, acc, ea, out, .nil, he, ha, hm => by
    cases he
    cases hm
    exact ⟨[], [], rfl, .nil, ha⟩
  | d :: ds, _, es, acc, ea, out, .cons h r, he, ha, hm => by
    unfold pairsD at he
    split at he
    · cases ‹_ = [] ›
    · rename_i k v r' e
      cases e
      cases q : pairsD ds with
      | none => rw [q] at he; cases he
      | some es' =>
        rw [q] at he
        cases he
        unfold mergeD at hm
        split at hm
        · rename_i k0 ek
          cases h with
          | tup ht hx =>
            cases hx with
            | cons h1 hx =>
              cases hx with
              | cons h2 hx =>
                cases hx
                obtain ⟨ps, kvs, e1, e2, e3⟩ := rp_pairs r q (ha.put k0 h2) hm
                refine ⟨_ :: ps, (k0, _) :: kvs, by rw [e1]; rfl, .cons ?_ e2, e3⟩
                rw [(RpL.s (H := H) h1).key ek] at ht
                exact ht
        · cases hm
    · cases he
theorem paired_mono {K : PySem.W.Frag} {H H2 : Hp} (e : Ex H H2) : ∀ {ps : List Addr} {kvs : List (Key × V)}, Paired (fun p kv => SqT K H p [kV kv.1, kv.2]) ps kvs → Paired (fun p kv => SqT K H2 p [kV kv.1, kv.2]) ps kvs
  | _, _, .nil => .nil
  | _, _, .cons h r => .cons (e.sqt h) (paired_mono e r)
theorem Rp.newD {K : PySem.W.Frag} {H : Hp} {Z : AS} {p : Addr} {kvs : List (Key × V)} {es : List (PD × PD)} (hz : ∀ a, Z a → ∃ o, H a = some o) (hp : H p = none) (h : RpK K (hid H Z) kvs es) : Rp K (hid (upd H p (.dK kvs)) Z) (.ref p) (.dict es) :=
  .dct (.inl (hid_new hz hp)) (h.mono (Ex.new hp).hid.le)
theorem n_dict {C : Cn} : OpN C (rDictA C.K) dictPD := fun Y Z H vs xs Q hyz hz hx q => by
  unfold dictPD at q
  split at q
  · split at q
    · split at q
      · rename_i ds _ es ee _ out eo
        obtain ⟨v, rfl, h⟩ := hx.one
        obtain ⟨p, ys, rfl, hp, hr⟩ := h.lst hyz
        obtain ⟨ps, kvs, e1, e2, e3⟩ := rp_pairs hr ee .nil eo
        exact .inl ⟨p, ps, kvs, rfl, .inl (.inl (by rw [← e1]; exact hp)), paired_mono hid_ex e2, fun n hn => q _ _ (Xt.new hn) (Rp.newD hz hn e3)⟩
      · exact q.elim
    · exact q.elim
  · obtain ⟨v, rfl, h⟩ := hx.one
    obtain ⟨p, kvs, rfl, hp, hr⟩ := h.dct hyz
    exact .inr ⟨p, kvs, rfl, hp, fun n hn => q _ _ (Xt.new hn) (Rp.newD hz hn hr)⟩
  · exact q.elim
end Dn

/-! objects: fields read and written. -/
namespace Dn
open PySem L2
variable [Tabl]
/-! ### fields by place -/
section
variable {K : PySem.W.Frag} {Hs Hs' H H' : Hp} {r : AS}
theorem ne_mem {L : List Addr} {x q : Addr} (hx : x ∈ L) (d : q ∉ L) : x ≠ q := fun w => d (w ▸ hx)
theorem FsOk.get : ∀ {vs : List V} {fs : List FV} {L : List Addr} {k : Nat} {d : PD}, FsOk K Hs H r vs fs L → fs[k]? = some (.sh d) → ∃ v, vs[k]? = some v ∧ Rp K Hs v d
  | _, _, _, _, _, .nil, h => by simp at h
  | _, _, _, 0, _, .sh h _, e => by simp at e; subst e; exact ⟨_, rfl, h⟩
  | _, _, _, 0, _, .ol _ _ _ _ _, e => by simp at e
  | _, _, _, k + 1, _, .sh _ t, e => by
    obtain ⟨v, h1, h2⟩ := FsOk.get (k := k) t (by simpa using e)
    exact ⟨v, by simpa using h1, h2⟩
  | _, _, _, k + 1, _, .ol _ _ _ _ t, e => by
    obtain ⟨v, h1, h2⟩ := FsOk.get (k := k) t (by simpa using e)
    exact ⟨v, by simpa using h1, h2⟩
theorem FsOk.getL : ∀ {vs : List V} {fs : List FV} {L : List Addr} {k : Nat} {ds : List PD}, FsOk K Hs H r vs fs L → fs[k]? = some (.ol ds) → ∃ q xs, vs[k]? = some (.ref q) ∧ q ∈ L ∧ r q ∧ H q = some (.lst xs) ∧ RpA K Hs xs ds
  | _, _, _, _, _, .nil, h => by simp at h
  | _, _, _, 0, _, .sh h _, e => by simp at e
  | _, _, _, 0, _, .ol a b c _ _, e => by simp at e; subst e; exact ⟨_, _, rfl, List.mem_cons_self, a, b, c⟩
  | _, _, _, k + 1, _, .sh _ t, e => by
    obtain ⟨q, xs, h1, h2⟩ := FsOk.getL (k := k) t (by simpa using e)
    exact ⟨q, xs, by simpa using h1, h2⟩
  | _, _, _, k + 1, _, .ol _ _ _ _ t, e => by
    obtain ⟨q, xs, h1, h0, h2⟩ := FsOk.getL (k := k) t (by simpa using e)
    exact ⟨q, xs, by simpa using h1, List.mem_cons_of_mem _ h0, h2⟩
theorem FsOk.monoL (e : LeR K Hs Hs') : ∀ {vs : List V} {fs : List FV} {L : List Addr}, (∀ q ∈ L, ∀ xs, H q = some (.lst xs) → H' q = some (.lst xs)) → FsOk K Hs H r vs fs L → FsOk K Hs' H' r vs fs L
  | _, _, _, _, .nil => .nil
  | _, _, _, k, .sh h t => .sh (h.mono e) (FsOk.monoL e k t)
  | _, _, _, k, .ol a b c d t => .ol a (k _ List.mem_cons_self _ b) (c.mono e) d (FsOk.monoL e (fun q hq => k q (List.mem_cons_of_mem _ hq)) t)
theorem FsOk.isL : ∀ {vs : List V} {fs : List FV} {L : List Addr}, FsOk K Hs H r vs fs L → ∀ q ∈ L, r q ∧ ∃ xs, H q = some (.lst xs)
  | _, _, _, .nil, q, h => nomatch h
  | _, _, _, .sh _ t, q, h => FsOk.isL t q h
  | _, _, _, .ol a b _ _ t, q, h => by
    rcases List.mem_cons.mp h with rfl | h
    · exact ⟨a, _, b⟩
    · exact FsOk.isL t q h
theorem FsOk.set {v : V} {d : PD} (h : Rp K Hs v d) : ∀ {vs : List V} {fs : List FV} {L : List Addr} (k : Nat), FsOk K Hs H r vs fs L → ∃ L', (∀ q ∈ L', q ∈ L) ∧ FsOk K Hs H r (vs.set k v) (fs.set k (.sh d)) L'
  | _, _, _, _, .nil => ⟨[], fun _ z => z, .nil⟩
  | _, _, _, 0, .sh _ t => ⟨_, fun _ z => z, .sh h t⟩
  | _, _, _, 0, .ol _ _ _ _ t => ⟨_, fun _ z => List.mem_cons_of_mem _ z, .sh h t⟩
  | _, _, _, k + 1, .sh g t => let ⟨L', s, q⟩ := FsOk.set h k t; ⟨L', s, .sh g q⟩
  | _, _, _, k + 1, .ol a b c d t => by
    obtain ⟨L', s, q⟩ := FsOk.set h k t
    exact ⟨_ :: L', fun x hx => (List.mem_cons.mp hx).elim (fun e => e ▸ List.mem_cons_self) fun z => List.mem_cons_of_mem _ (s x z), .ol a b c (fun z => d (s _ z)) q⟩
theorem FsOk.setL {p : Addr} {xs : List V} {ds : List PD} (h1 : r p) (h2 : H p = some (.lst xs)) (h3 : RpA K Hs xs ds) : ∀ {vs : List V} {fs : List FV} {L : List Addr} (k : Nat), p ∉ L → FsOk K Hs H r vs fs L → ∃ L', (∀ q ∈ L', q ∈ L ∨ q = p) ∧ FsOk K Hs H r (vs.set k (.ref p)) (fs.set k (.ol ds)) L'
  | _, _, _, _, _, .nil => ⟨[], (fun _ z => nomatch z), .nil⟩
  | _, _, _, 0, hp, .sh _ t => ⟨_ :: _, fun x hx => (List.mem_cons.mp hx).elim .inr .inl, .ol h1 h2 h3 hp t⟩
  | _, _, _, 0, hp, .ol _ _ _ _ t => ⟨_ :: _, fun x hx => (List.mem_cons.mp hx).elim .inr fun z => .inl (List.mem_cons_of_mem _ z), .ol h1 h2 h3 (fun z => hp (List.mem_cons_of_mem _ z)) t⟩
  | _, _, _, k + 1, hp, .sh g t => let ⟨L', s, q⟩ := FsOk.setL h1 h2 h3 k hp t; ⟨L', s, .sh g q⟩
  | _, _, _, k + 1, hp, .ol a b c d t => by
    obtain ⟨L', s, q⟩ := FsOk.setL h1 h2 h3 k (fun z => hp (List.mem_cons_of_mem _ z)) t
    refine ⟨_ :: L', fun x hx => (List.mem_cons.mp hx).elim (fun e => .inl (e ▸ List.mem_cons_self)) fun z => (s x z).imp (List.mem_cons_of_mem _) fun z => z, .ol a b c (fun z => ?_) q⟩
    rcases s _ z with z | z
    · exact d z
    · exact hp (z ▸ List.mem_cons_self)
theorem FsOk.snoc {v : V} {d : PD} (h : Rp K Hs v d) : ∀ {vs : List V} {fs : List FV} {L : List Addr}, FsOk K Hs H r vs fs L → FsOk K Hs H r (vs ++ [v]) (fs ++ [.sh d]) L
  | _, _, _, .nil => .sh h .nil
  | _, _, _, .sh g t => .sh g (FsOk.snoc h t)
  | _, _, _, .ol a b c d t => .ol a b c d (FsOk.snoc h t)
theorem FsOk.snocL {p : Addr} {xs : List V} {ds : List PD} (h1 : r p) (h2 : H p = some (.lst xs)) (h3 : RpA K Hs xs ds) : ∀ {vs : List V} {fs : List FV} {L : List Addr}, p ∉ L → FsOk K Hs H r vs fs L → ∃ L', (∀ q ∈ L', q ∈ L ∨ q = p) ∧ FsOk K Hs H r (vs ++ [.ref p]) (fs ++ [.ol ds]) L'
  | _, _, _, _, .nil => ⟨[p], fun x hx => .inr (List.mem_singleton.mp hx), .ol h1 h2 h3 (by simp) .nil⟩
  | _, _, _, hp, .sh g t => let ⟨L', s, q⟩ := FsOk.snocL h1 h2 h3 hp t; ⟨L', s, .sh g q⟩
  | _, _, _, hp, .ol a b c d t => by
    obtain ⟨L', s, q⟩ := FsOk.snocL h1 h2 h3 (fun z => hp (List.mem_cons_of_mem _ z)) t
    refine ⟨_ :: L', fun x hx => (List.mem_cons.mp hx).elim (fun e => .inl (e ▸ List.mem_cons_self)) fun z => (s x z).imp (List.mem_cons_of_mem _) fun z => z, .ol a b c (fun z => ?_) q⟩
    rcases s _ z with z | z
    · exact d z
    · exact hp (z ▸ List.mem_cons_self)
/-- the list of the field k is written -/
theorem FsOk.wr {q : Addr} {ys : List V} {ds' : List PD} (h3 : RpA K Hs ys ds') : ∀ {vs : List V} {fs : List FV} {L : List Addr} {k : Nat} {ds : List PD}, FsOk K Hs H r vs fs L → fs[k]? = some (.ol ds) → vs[k]? = some (.ref q) → FsOk K Hs (upd H q (.lst ys)) r vs (fs.set k (.ol ds')) L
  | _, _, _, _, _, .nil, h, _ => by simp at h
  | _, _, _, 0, _, .sh h _, e, _ => by simp at e
  | _, _, _, 0, _, .ol a b c d t, e, e2 => by
    simp at e2
    subst e2
    refine .ol a upd_same h3 d (t.monoL ⟨fun _ _ z => z, fun _ _ z => z, fun _ _ z => z⟩ fun x hx xs z => ?_)
    rw [upd_ne (ne_mem hx d)]
    exact z
  | _, _, _, k + 1, _, .sh g t, e, e2 => .sh g (FsOk.wr h3 (k := k) t (by simpa using e) (by simpa using e2))
  | _, _, _, k + 1, _, .ol a b c d t, e, e2 => by
    have e' := (by simpa using e : (_ : List FV)[k]? = some _)
    have e2' := (by simpa using e2 : (_ : List V)[k]? = some _)
    obtain ⟨q1, xs1, f1, f2, _⟩ := t.getL e'
    rw [e2'] at f1
    cases f1
    refine .ol a ?_ c d (FsOk.wr h3 (k := k) t e' e2')
    rw [upd_ne (ne_mem f2 d).symm]
    exact b
end
/-! ### fields by name -/
theorem lookup_at {f : Str} {v : V} : ∀ {vs : List (Str × V)} {ns : List Str} {n k : Nat}, vs.map (·.1) = ns.take n → ns.Nodup → ns[k]? = some f → (vs.map (·.2))[k]? = some v → vs.lookup f = some v
  | [], _, _, _, _, _, _, h => by simp at h
  | (g, x) :: r, [], n, k, e, _, hk, _ => by simp at hk
  | (g, x) :: r, m :: ns, 0, k, e, _, hk, _ => by simp at e
  | (g, x) :: r, m :: ns, n + 1, 0, e, _, hk, h => by
    simp at e hk h
    obtain ⟨rfl, _⟩ := e
    subst hk h
    simp [List.lookup]
  | (g, x) :: r, m :: ns, n + 1, k + 1, e, hn, hk, h => by
    simp only [List.map_cons, List.take_succ_cons, List.cons.injEq] at e
    obtain ⟨rfl, e⟩ := e
    rw [List.nodup_cons] at hn
    have hk' : ns[k]? = some f := by simpa using hk
    have ne : (f == g) = false := beq_eq_false_iff_ne.mpr fun z => hn.1 (z ▸ List.mem_of_getElem? hk')
    rw [List.lookup_cons, ne]
    exact lookup_at (k := k) e hn.2 hk' (by simpa using h)
theorem lookup_no {f : Str} : ∀ {vs : List (Str × V)} {ns : List Str} {n : Nat}, vs.map (·.1) = ns.take n → f ∉ ns → vs.lookup f = none
  | [], _, _, _, _ => rfl
  | (g, x) :: r, [], n, e, _ => by simp at e
  | (g, x) :: r, m :: ns, 0, e, _ => by simp at e
  | (g, x) :: r, m :: ns, n + 1, e, h => by
    simp only [List.map_cons, List.take_succ_cons, List.cons.injEq] at e
    obtain ⟨rfl, e⟩ := e
    have ne : (f == g) = false := beq_eq_false_iff_ne.mpr fun z => h (z ▸ List.mem_cons_self)
    rw [List.lookup_cons, ne]
    exact lookup_no e fun z => h (List.mem_cons_of_mem _ z)
theorem putF_at {f : Str} {v : V} : ∀ {vs : List (Str × V)} {ns : List Str} {n k : Nat}, vs.map (·.1) = ns.take n → ns.Nodup → ns[k]? = some f → k < vs.length → putF f v vs = vs.set k (f, v)
  | [], _, _, _, _, _, _, h => absurd h (Nat.not_lt_zero _)
  | (g, x) :: r, [], n, k, e, _, hk, _ => by simp at hk
  | (g, x) :: r, m :: ns, 0, k, e, _, hk, _ => by simp at e
  | (g, x) :: r, m :: ns, n + 1, 0, e, _, hk, h => by
    simp at e hk
    obtain ⟨rfl, _⟩ := e
    subst hk
    unfold putF
    rw [if_pos rfl]
    rfl
  | (g, x) :: r, m :: ns, n + 1, k + 1, e, hn, hk, h => by
    simp only [List.map_cons, List.take_succ_cons, List.cons.injEq] at e
    obtain ⟨rfl, e⟩ := e
    rw [List.nodup_cons] at hn
    have hk' : ns[k]? = some f := by simpa using hk
    unfold putF
    have ng : ¬ g = f := fun z => hn.1 (by rw [z]; exact List.mem_of_getElem? hk')
    rw [if_neg ng, putF_at (k := k) e hn.2 hk' (by simpa using h)]
    rfl
theorem putF_end {f : Str} {v : V} : ∀ {vs : List (Str × V)} {ns : List Str} {n k : Nat}, vs.map (·.1) = ns.take n → ns.Nodup → ns[k]? = some f → k = vs.length → putF f v vs = vs ++ [(f, v)]
  | [], _, _, _, _, _, _, h => rfl
  | (g, x) :: r, [], n, k, e, _, hk, _ => by simp at hk
  | (g, x) :: r, m :: ns, 0, k, e, _, hk, _ => by simp at e
  | (g, x) :: r, m :: ns, n + 1, 0, e, _, hk, h => by simp at h
  | (g, x) :: r, m :: ns, n + 1, k + 1, e, hn, hk, h => by
    simp only [List.map_cons, List.take_succ_cons, List.cons.injEq] at e
    obtain ⟨rfl, e⟩ := e
    rw [List.nodup_cons] at hn
    have hk' : ns[k]? = some f := by simpa using hk
    unfold putF
    have ng : ¬ g = f := fun z => hn.1 (by rw [z]; exact List.mem_of_getElem? hk')
    rw [if_neg ng, putF_end (k := k) e hn.2 hk' (by simpa using h)]
    rfl
def setO (fs : List FV) (k : Nat) (x : FV) : List FV := if k < fs.length then fs.set k x else fs ++ [x]
theorem names_put {f : Str} {v : V} {vs : List (Str × V)} {ns : List Str} {fs : List FV} {k : Nat} {x : FV} (e : vs.map (·.1) = ns.take fs.length) (hl : vs.length = fs.length) (hn : ns.Nodup) (hk : ns[k]? = some f) (hle : k ≤ fs.length) : (putF f v vs).map (·.1) = ns.take (setO fs k x).length := by
  unfold setO
  by_cases h : k < fs.length
  · rw [if_pos h, putF_at e hn hk (by omega), List.length_set, List.map_set, ← e]
    apply List.ext_getElem?
    intro j
    rw [List.getElem?_set]
    split
    · rename_i hj
      subst hj
      have : (vs.map (·.1))[k]? = some f := by rw [e, List.getElem?_take, if_pos h]; exact hk
      rw [this]
      have hlt : k < (vs.map (·.1)).length := by rw [List.length_map]; omega
      rw [if_pos hlt]
    · rfl
  · have hk2 : k = fs.length := by omega
    rw [if_neg h, putF_end e hn hk (by omega), List.map_append, e, List.length_append]
    have : ns.take (fs.length + 1) = ns.take fs.length ++ [f] := by
      rw [List.take_succ, ← hk2, hk]
      rfl
    rw [show ([x] : List FV).length = 1 from rfl, this]
    rfl
theorem vals_put {f : Str} {v : V} {vs : List (Str × V)} {ns : List Str} {fs : List FV} {k : Nat} (e : vs.map (·.1) = ns.take fs.length) (hl : vs.length = fs.length) (hn : ns.Nodup) (hk : ns[k]? = some f) (hle : k ≤ fs.length) : (putF f v vs).map (·.2) = if k < fs.length then (vs.map (·.2)).set k v else vs.map (·.2) ++ [v] := by
  by_cases h : k < fs.length
  · rw [if_pos h, putF_at e hn hk (by omega), List.map_set]
  · rw [if_neg h, putF_end e hn hk (by omega), List.map_append]
    rfl
/-! ### a slot's own thing is changed -/
def upR (reg : Nat → AS) (i : Nat) (r : AS) : Nat → AS := fun j a => (j ≠ i ∧ reg j a) ∨ (j = i ∧ r a)
section
variable {K : PySem.W.Frag} {H0 H H2 : Hp} {ext : AS} {reg : Nat → AS} {en : En} {σ : L2.St}
theorem upR_own {i : Nat} {r' : AS} {a : Addr} (h : own ext (upR reg i r') a) : own ext reg a ∨ r' a := by
  rcases h with h | ⟨j, ⟨_, h⟩ | ⟨_, h⟩⟩
  · exact .inl (.inl h)
  · exact .inl (.inr ⟨j, h⟩)
  · exact .inr h
theorem RS.chg_up (r : RS K H0 ext reg en σ H) {i : Nat} {r' : AS} (k1 : ∀ a o, ¬ reg i a → H a = some o → isTb o = false → H2 a = some o) (k2 : ∀ a, r' a → reg i a ∨ Nn H a) : Ex (hid H (own ext reg)) (hid H2 (own ext (upR reg i r'))) := ⟨fun a o h n => by
  obtain ⟨z, h⟩ := hid_some h
  have h2 := k1 a o (fun q => z (.inr ⟨i, q⟩)) h n
  rw [hid_at fun q => ?_]
  · exact h2
  · rcases upR_own q with q | q
    · exact z q
    · rcases k2 a q with q | q
      · exact z (.inr ⟨i, q⟩)
      · exact So.nn ⟨o, h, n⟩ q⟩
theorem RS.chg (r : RS K H0 ext reg en σ H) {i : Nat} {r' : AS} {sv : SV} {v : Option V} (hi : i < en.length) (ho : isOwn sv = true) (hv : σ[i]? = some v)
    (k1 : ∀ a o, ¬ reg i a → H a = some o → isTb o = false → H2 a = some o) (tb : LamX.Tabs Tabl.T H2) (k2 : ∀ a, r' a → reg i a ∨ Nn H a) (k3 : ∀ a, r' a → So H2 a)
    (h : SlotOk K (hid H2 (own ext (upR reg i r'))) H2 v r' sv) : RS K H0 ext (upR reg i r') (en.set i sv) σ H2 := by
  have up := r.chg_up k1 k2
  have nm : ∀ j a, j ≠ i → reg j a → ¬ reg i a := fun j a hj q q2 => hj (r.dj j i a q q2)
  refine ⟨⟨fun a o h0 n => k1 a o (fun q => So.nn ⟨o, h0, n⟩ (r.rg i a q).1) (r.le.k a o h0 n) n⟩, tb, r.exd, ?_, ?_, ?_, by simp [r.len], fun j sv' e => ?_⟩
  · rintro j a (⟨hj, q⟩ | ⟨rfl, q⟩)
    · obtain ⟨q1, o, q2, q3⟩ := r.rg j a q
      exact ⟨q1, o, k1 a o (nm j a hj q) q2 q3, q3⟩
    · refine ⟨?_, k3 a q⟩
      rcases k2 a q with q | q
      · exact (r.rg j a q).1
      · exact r.le.nn q
  · rintro j k a (⟨hj, q⟩ | ⟨rfl, q⟩) (⟨hk, q'⟩ | ⟨rfl, q'⟩)
    · exact r.dj j k a q q'
    · rcases k2 a q' with z | z
      · exact absurd z (nm j a hj q)
      · exact (So.nn (r.rg j a q).2 z).elim
    · rcases k2 a q with z | z
      · exact absurd z (nm k a hk q')
      · exact (So.nn (r.rg k a q').2 z).elim
    · rfl
  · rintro j a (⟨hj, q⟩ | ⟨rfl, q⟩)
    · obtain ⟨sv', h1, h2⟩ := r.ro j a q
      exact ⟨sv', by rw [List.getElem?_set_ne (Ne.symm hj)]; exact h1, h2⟩
    · exact ⟨sv, by rw [List.getElem?_set_self hi], ho⟩
  · by_cases hj : i = j
    · subst hj
      rw [List.getElem?_set_self hi] at e
      cases e
      exact ⟨v, hv, h.rg fun a q => .inr ⟨rfl, q⟩⟩
    · rw [List.getElem?_set_ne hj] at e
      obtain ⟨u, h1, h2⟩ := r.sl j sv' e
      exact ⟨u, h1, (h2.mono (H' := H2) up fun a o z q n => k1 a o (nm j a (Ne.symm hj) z) q n).rg fun a q => .inl ⟨Ne.symm hj, q⟩⟩
/-- a slot that takes a new thing, of whatever places -/
theorem RS.newR (r : RS K H0 ext reg en σ H) {i : Nat} {r' : AS} {sv : SV} {v : V} (hi : i < en.length) (ho : isOwn sv = true) (k1 : ∀ a o, H a = some o → isTb o = false → H2 a = some o) (tb : LamX.Tabs Tabl.T H2) (k2 : ∀ a, r' a → Nn H a) (k3 : ∀ a, r' a → So H2 a)
    (h : SlotOk K (hid H2 (own ext (upR reg i r'))) H2 (some v) r' sv) : RS K H0 ext (upR reg i r') (en.set i sv) (σ.set i (some v)) H2 := by
  have up : Ex (hid H (own ext reg)) (hid H2 (own ext (upR reg i r'))) := r.chg_up (fun a o _ => k1 a o) fun a q => .inr (k2 a q)
  refine ⟨⟨fun a o h0 n => k1 a o (r.le.k a o h0 n) n⟩, tb, r.exd, ?_, ?_, ?_, by simp [r.len], fun j sv' e => ?_⟩
  · rintro j a (⟨hj, q⟩ | ⟨rfl, q⟩)
    · obtain ⟨q1, o, q2, q3⟩ := r.rg j a q
      exact ⟨q1, o, k1 a o q2 q3, q3⟩
    · exact ⟨r.le.nn (k2 a q), k3 a q⟩
  · rintro j k a (⟨hj, q⟩ | ⟨rfl, q⟩) (⟨hk, q'⟩ | ⟨rfl, q'⟩)
    · exact r.dj j k a q q'
    · exact (So.nn (r.rg j a q).2 (k2 a q')).elim
    · exact (So.nn (r.rg k a q').2 (k2 a q)).elim
    · rfl
  · rintro j a (⟨hj, q⟩ | ⟨rfl, q⟩)
    · obtain ⟨sv', h1, h2⟩ := r.ro j a q
      exact ⟨sv', by rw [List.getElem?_set_ne (Ne.symm hj)]; exact h1, h2⟩
    · exact ⟨sv, by rw [List.getElem?_set_self hi], ho⟩
  · by_cases hj : i = j
    · subst hj
      rw [List.getElem?_set_self hi] at e
      cases e
      exact ⟨some v, by rw [List.getElem?_set_self (by rw [r.len]; exact hi)], h.rg fun a q => .inr ⟨rfl, q⟩⟩
    · rw [List.getElem?_set_ne hj] at e
      obtain ⟨u, h1, h2⟩ := r.sl j sv' e
      exact ⟨u, by rw [List.getElem?_set_ne hj]; exact h1, (h2.mono (H' := H2) up fun a o z q n => k1 a o q n).rg fun a q => .inl ⟨Ne.symm hj, q⟩⟩
theorem RS.atO (r : RS K H0 ext reg en σ H) {i : Nat} {m : Bool} {c : Str} {ns : List Str} {fs : List FV} (h : en[i]? = some (.ob m c ns fs)) : ∃ p dx vs L, σ[i]? = some (some (.ref p)) ∧ (m = true → p = Tabl.me) ∧ reg i p ∧ H p = some (.ins (Tabl.C c) dx vs) ∧ vs.map (·.1) = ns.take fs.length ∧ vs.length = fs.length ∧ FsOk K (hid H (own ext reg)) H (reg i) (vs.map (·.2)) fs L := by
  obtain ⟨v, h1, p, dx, vs, L, rfl, h2, h3, h4, h5, h6⟩ := r.sl i _ h
  exact ⟨p, dx, vs, L, h1, h2, h3, h4, h5, by have := h6.len; rw [List.length_map] at this; exact this, h6⟩
end
theorem lt_of_some {α : Type} {l : List α} {i : Nat} {x : α} (h : l[i]? = some x) : i < l.length := (List.getElem?_eq_some_iff.mp h).1
/-! ### o.f -/
def dFld (i : Nat) (c : Str) (ns : List Str) (k : Nat) : En → R PD := fun en => match en[i]? with
  | some (.ob _ c' ns' fs) => if c' = c ∧ ns' = ns then match fs[k]? with
      | some (.sh d) => .ok d
      | _ => .stuck
    else .stuck
  | _ => .stuck
def dFldL (i : Nat) (c : Str) (ns : List Str) (k : Nat) : En → R PD := fun en => match en[i]? with
  | some (.ob _ c' ns' fs) => if c' = c ∧ ns' = ns then match fs[k]? with
      | some (.sh d) => .ok d
      | some (.ol ds) => .ok (.list ds)
      | _ => .stuck
    else .stuck
  | _ => .stuck
/-- what a class must have for its fields -/
structure ClF (K : PySem.W.Frag) (C : Addr) (ns : List Str) (k : Nat) (f : Str) : Prop where
  cl : Cls K C
  no : NoAttr K C f
  nd : ns.Nodup
  at_ : ns[k]? = some f
section
variable {C : Cn} {te ta : TE} {fa : En → R PD}
theorem ed_fld {i k : Nat} {c f : Str} {ns : List Str} (h : ClF C.K (Tabl.C c) ns k f) : EdS C (tFld C.K (tVar i) f) (dFld i c ns k) := fun H0 ext reg en σ H rs Q w => by
  unfold dFld at w
  cases e : en[i]? with
  | none => rw [e] at w; exact w.elim
  | some sv =>
    rw [e] at w
    cases sv with
    | ob m c' ns' fs =>
      dsimp only at w
      split at w
      · rename_i he
        obtain ⟨rfl, rfl⟩ := he
        obtain ⟨p, dx, vs, L, h1, h2, h3, h4, h5, hl, h6⟩ := rs.atO e
        split at w
        · rename_i d ek
          obtain ⟨v, hv, hr⟩ := h6.get ek
          exact ⟨_, h1, p, _, dx, vs, v, rfl, h4, h.cl, h.no, lookup_at h5 h.nd h.at_ hv, w v H (Xt.refl H) hr⟩
        · exact w.elim
      · exact w.elim
    | _ => exact w.elim
theorem el_fld {i k : Nat} {c f : Str} {ns : List Str} (h : ClF C.K (Tabl.C c) ns k f) : EdL C (tFld C.K (tVar i) f) (dFldL i c ns k) := fun H0 ext reg en σ H rs Q w => by
  unfold dFldL at w
  cases e : en[i]? with
  | none => rw [e] at w; exact w.elim
  | some sv =>
    rw [e] at w
    cases sv with
    | ob m c' ns' fs =>
      dsimp only at w
      split at w
      · rename_i he
        obtain ⟨rfl, rfl⟩ := he
        obtain ⟨p, dx, vs, L, h1, h2, h3, h4, h5, hl, h6⟩ := rs.atO e
        split at w
        · rename_i d ek
          obtain ⟨v, hv, hr⟩ := h6.get ek
          exact ⟨_, h1, p, _, dx, vs, v, rfl, h4, h.cl, h.no, lookup_at h5 h.nd h.at_ hv, w v H (Xt.refl H) (.s hr)⟩
        · rename_i ds ek
          obtain ⟨q, xs, hv, _, hrq, hq, hr⟩ := h6.getL ek
          exact ⟨_, h1, p, _, dx, vs, _, rfl, h4, h.cl, h.no, lookup_at h5 h.nd h.at_ hv, w _ H (Xt.refl H) (.l (by rw [hid_at (rs.noext hrq)]; exact hq) hr)⟩
        · exact w.elim
      · exact w.elim
    | _ => exact w.elim
/-! ### o.f = e -/
def putO (i : Nat) (c : Str) (ns : List Str) (k : Nat) (x : FV) (en : En) : R En := match en[i]? with
  | some (.ob m c' ns' fs) => if c' = c ∧ ns' = ns ∧ k ≤ fs.length ∧ fs.length ≤ 100 then .ok (en.set i (.ob m c ns (setO fs k x))) else .stuck
  | _ => .stuck
def sFldE (i : Nat) (c : Str) (ns : List Str) (k : Nat) (fe : En → R (PD × En)) : En → R Fl := fun en => (fe en).bind fun p => (putO i c ns k (.sh p.1) p.2).bind fun e => .ok (.nx e)
theorem es_fldE {i k : Nat} {c f : Str} {ns : List Str} {fe : En → R (PD × En)} (h : ClF C.K (Tabl.C c) ns k f) (he : EdE C te fe) : Es C (sFld C.K (tVar i) te f) (sFldE i c ns k fe) := fun H0 ext reg en σ H rs D w => he H0 ext reg en σ H rs _ (by
  unfold sFldE at w
  generalize fe en = x at w ⊢
  cases x with
  | exc c => exact fun H2 e2 t2 => w H2 e2 t2
  | stuck => exact w
  | ok p =>
    obtain ⟨d, en1⟩ := p
    intro v reg1 H1 e1 r1 hv
    simp only [R.bind_ok] at w
    unfold putO at w
    cases e : en1[i]? with
    | none => rw [e] at w; exact w.elim
    | some sv =>
      rw [e] at w
      cases sv with
      | ob m c' ns' fs =>
        dsimp only at w
        split at w
        · rename_i hc
          obtain ⟨rfl, rfl, hk, hl100⟩ := hc
          obtain ⟨p, dx, vs, L, h1, h2, h3, h4, h5, hl, h6⟩ := r1.atO e
          refine ⟨_, h1, p, _, dx, vs, rfl, h4, h.cl, h.no, by omega, w _ _ _ (r1.chg (r' := reg1 i) (lt_of_some e) rfl h1 (fun a o na ha _ => ?_) (tabs_wr r1.tb h4 rfl fun a ha => upd_ne ha) (fun a q => .inl q) (fun a q => ?_) ?_)⟩
          · have nap : a ≠ p := fun z => na (by rw [z]; exact h3)
            rw [upd_ne nap]
            exact ha
          · by_cases hap : a = p
            · rw [hap]; exact ⟨_, upd_same, rfl⟩
            · obtain ⟨o, q1, q2⟩ := (r1.rg i a q).2
              exact ⟨o, by rw [upd_ne hap]; exact q1, q2⟩
          · have ow : own ext (upR reg1 i (reg1 i)) = own ext reg1 := by
              funext a
              apply propext
              constructor
              · intro z
                rcases upR_own z with z | z
                · exact z
                · exact .inr ⟨i, z⟩
              · rintro (z | ⟨j, z⟩)
                · exact .inl z
                · by_cases hj : j = i
                  · exact .inr ⟨j, .inr ⟨hj, hj ▸ z⟩⟩
                  · exact .inr ⟨j, .inl ⟨hj, z⟩⟩
            rw [ow, hid_upd (.inr ⟨i, h3⟩)]
            have nl : ∀ q ∈ L, q ≠ p := fun q hq z => by
              obtain ⟨_, xs, hx⟩ := h6.isL q hq
              rw [z, h4] at hx
              cases hx
            have h7 : FsOk C.K (hid H1 (own ext reg1)) (upd H1 p (.ins (Tabl.C c') dx (putF f v vs))) (reg1 i) (vs.map (·.2)) fs L := h6.monoL (Ex.refl _).le fun q hq xs hx => by rw [upd_ne (nl q hq)]; exact hx
            by_cases hlt : k < fs.length
            · obtain ⟨L', _, h8⟩ := h7.set hv k
              refine ⟨p, dx, _, L', rfl, h2, h3, upd_same, names_put h5 hl h.nd h.at_ hk, ?_⟩
              rw [vals_put h5 hl h.nd h.at_ hk, if_pos hlt]
              unfold setO
              rw [if_pos hlt]
              exact h8
            · refine ⟨p, dx, _, L, rfl, h2, h3, upd_same, names_put h5 hl h.nd h.at_ hk, ?_⟩
              rw [vals_put h5 hl h.nd h.at_ hk, if_neg hlt]
              unfold setO
              rw [if_neg hlt]
              exact h7.snoc hv
        · exact w.elim
      | _ => exact w.elim)
end
end Dn

/-! objects: lists of their own; methods, makings. -/
namespace Dn
open PySem L2
variable [Tabl]
section
variable {K : PySem.W.Frag} {H0 H : Hp} {ext : AS} {reg : Nat → AS} {en : En} {σ : L2.St}
theorem own_upR_self {i : Nat} : own ext (upR reg i (reg i)) = own ext reg := by
  funext a
  apply propext
  constructor
  · intro z
    rcases upR_own z with z | z
    · exact z
    · exact .inr ⟨i, z⟩
  · rintro (z | ⟨j, z⟩)
    · exact .inl z
    · by_cases hj : j = i
      · exact .inr ⟨j, .inr ⟨hj, hj ▸ z⟩⟩
      · exact .inr ⟨j, .inl ⟨hj, z⟩⟩
end
section
variable {C : Cn} {te ta : TE} {fa : En → R PD}
/-- o.f = a new list -/
def sFldF (i : Nat) (c : Str) (ns : List Str) (k : Nat) (fa : En → R (List PD)) : En → R Fl := fun en => (fa en).bind fun ds => (putO i c ns k (.ol ds) en).bind fun e => .ok (.nx e)
theorem es_fldF {i k : Nat} {c f : Str} {ns : List Str} {fa : En → R (List PD)} (h : ClF C.K (Tabl.C c) ns k f) (ha : EdF C te fa) : Es C (sFld C.K (tVar i) te f) (sFldF i c ns k fa) := fun H0 ext reg en σ H rs D w => ha H0 ext reg en σ H rs _ (by
  unfold sFldF at w
  generalize fa en = x at w ⊢
  cases x with
  | exc c => exact WS.exc w rs.le rs.tb
  | stuck => exact w
  | ok ds =>
    intro q xs H1 e1 hq hx
    have r1 := rs.ex e1
    simp only [R.bind_ok] at w
    unfold putO at w
    cases e : en[i]? with
    | none => rw [e] at w; exact w.elim
    | some sv =>
      rw [e] at w
      cases sv with
      | ob m c' ns' fs =>
        dsimp only at w
        split at w
        · rename_i hc
          obtain ⟨rfl, rfl, hk, hl100⟩ := hc
          obtain ⟨p, dx, vs, L, h1, h2, h3, h4, h5, hl, h6⟩ := r1.atO e
          have npq : p ≠ q := fun z => by rw [z, hq] at h4; cases h4
          have h4' : upd H1 q (.lst xs) p = some (.ins (Tabl.C c') dx vs) := by rw [upd_ne npq]; exact h4
          have tb1 : LamX.Tabs Tabl.T (upd H1 q (.lst xs)) := (Xt.new hq).t r1.tb
          have nqL : q ∉ L := fun z => by
            obtain ⟨_, ys, hy⟩ := h6.isL q z
            rw [hq] at hy
            cases hy
          have k1 : ∀ a o, ¬ reg i a → H1 a = some o → isTb o = false → upd (upd H1 q (.lst xs)) p (.ins (Tabl.C c') dx (putF f (.ref q) vs)) a = some o := fun a o na ha _ => by
            have nap : a ≠ p := fun z => na (by rw [z]; exact h3)
            have naq : a ≠ q := fun z => by rw [z, hq] at ha; cases ha
            rw [upd_ne nap, upd_ne naq]
            exact ha
          have k2 : ∀ a, (reg i a ∨ a = q) → reg i a ∨ Nn H1 a := fun a z => z.imp (fun z => z) fun z => by rw [z]; exact .of hq
          refine ⟨_, h1, p, _, dx, vs, rfl, h4', h.cl, h.no, by omega, w _ _ _ (r1.chg (r' := fun a => reg i a ∨ a = q) (lt_of_some e) rfl h1 k1 (tabs_wr tb1 h4' rfl fun a ha => upd_ne ha) k2 (fun a z => ?_) ?_)⟩
          · by_cases hap : a = p
            · rw [hap]; exact ⟨_, upd_same, rfl⟩
            · rw [So, upd_ne hap]
              rcases z with z | z
              · obtain ⟨o, q1, q2⟩ := (r1.rg i a z).2
                exact ⟨o, by rw [upd_ne fun z2 => by rw [z2, hq] at q1; cases q1]; exact q1, q2⟩
              · rw [z]; exact ⟨_, upd_same, rfl⟩
          · have up := r1.chg_up (r' := fun a => reg i a ∨ a = q) k1 k2
            have nl : ∀ z ∈ L, z ≠ p := fun z hz e => by
              obtain ⟨_, ys, hy⟩ := h6.isL z hz
              rw [e, h4] at hy
              cases hy
            have h7 := (h6.rg (r' := fun a => reg i a ∨ a = q) fun a z => .inl z).monoL (H' := upd (upd H1 q (.lst xs)) p (.ins (Tabl.C c') dx (putF f (.ref q) vs))) up.le fun z hz ys hy => by
              rw [upd_ne (nl z hz), upd_ne (ne_mem hz nqL)]; exact hy
            have hq2 : upd (upd H1 q (.lst xs)) p (.ins (Tabl.C c') dx (putF f (.ref q) vs)) q = some (.lst xs) := by rw [upd_ne npq.symm, upd_same]
            by_cases hlt : k < fs.length
            · obtain ⟨L', _, h8⟩ := h7.setL (.inr rfl) hq2 (hx.mono up.le) k nqL
              refine ⟨p, dx, _, L', rfl, h2, .inl h3, upd_same, names_put h5 hl h.nd h.at_ hk, ?_⟩
              rw [vals_put h5 hl h.nd h.at_ hk, if_pos hlt]
              unfold setO
              rw [if_pos hlt]
              exact h8
            · obtain ⟨L', _, h8⟩ := h7.snocL (.inr rfl) hq2 (hx.mono up.le) nqL
              refine ⟨p, dx, _, L', rfl, h2, .inl h3, upd_same, names_put h5 hl h.nd h.at_ hk, ?_⟩
              rw [vals_put h5 hl h.nd h.at_ hk, if_neg hlt]
              unfold setO
              rw [if_neg hlt]
              exact h8
        · exact w.elim
      | _ => exact w.elim)
/-- the list of the field k of the object in the slot i is written -/
theorem RS.wrF {K : PySem.W.Frag} {H0 H : Hp} {ext : AS} {reg : Nat → AS} {en : En} {σ : L2.St} {i k : Nat} {m : Bool} {c : Str} {ns : List Str} {fs : List FV} {ds ds' : List PD} {q p dx : Addr} {vs : List (Str × V)} {L : List Addr} {xs ys : List V} (r1 : RS K H0 ext reg en σ H) (e : en[i]? = some (.ob m c ns fs)) (h1 : σ[i]? = some (some (.ref p))) (h2 : m = true → p = Tabl.me) (h3 : reg i p) (h4 : H p = some (.ins (Tabl.C c) dx vs)) (h5 : vs.map (·.1) = ns.take fs.length) (h6 : FsOk K (hid H (own ext reg)) H (reg i) (vs.map (·.2)) fs L)
    (ek : fs[k]? = some (.ol ds)) (hv : (vs.map (·.2))[k]? = some (.ref q)) (hq : H q = some (.lst xs)) (hrq : reg i q) (hy : RpA K (hid H (own ext reg)) ys ds') : RS K H0 ext (upR reg i (reg i)) (en.set i (.ob m c ns (fs.set k (.ol ds')))) σ (upd H q (.lst ys)) := by
  have npq : p ≠ q := fun z => by rw [z, hq] at h4; cases h4
  refine r1.chg (r' := reg i) (lt_of_some e) rfl h1 (fun a o na ha _ => ?_) (tabs_wr r1.tb hq rfl fun a ha => upd_ne ha) (fun a z => .inl z) (fun a z => ?_) ?_
  · have naq : a ≠ q := fun z => na (by rw [z]; exact hrq)
    rw [upd_ne naq]
    exact ha
  · by_cases haq : a = q
    · rw [haq]; exact ⟨_, upd_same, rfl⟩
    · obtain ⟨o, q1, q2⟩ := (r1.rg i a z).2
      exact ⟨o, by rw [upd_ne haq]; exact q1, q2⟩
  · rw [own_upR_self, hid_upd (.inr ⟨i, hrq⟩)]
    exact ⟨p, dx, vs, L, rfl, h2, h3, by rw [upd_ne npq]; exact h4, by rw [List.length_set]; exact h5, h6.wr hy ek hv⟩
/-- o.f.append(e) -/
def sFldApp (i : Nat) (c : Str) (ns : List Str) (k : Nat) (fa : En → R PD) : En → R Fl := fun en => match en[i]? with
  | some (.ob m c' ns' fs) => if c' = c ∧ ns' = ns then match fs[k]? with
      | some (.ol ds) => (fa en).bind fun d => if ds.length + 1 ≤ szN then .ok (.nx (en.set i (.ob m c ns (fs.set k (.ol (ds ++ [d])))))) else .stuck
      | _ => .stuck
    else .stuck
  | _ => .stuck
theorem es_fldApp {i k : Nat} {c f : Str} {ns : List Str} (h : ClF C.K (Tabl.C c) ns k f) (ha : EdS C te fa) : Es C (tDrop (tBM C.K "list" rAppend (tFld C.K (tVar i) f) (tCons te tNil))) (sFldApp i c ns k fa) := fun H0 ext reg en σ H rs D w => by
  unfold sFldApp at w
  cases e : en[i]? with
  | none => rw [e] at w; exact w.elim
  | some sv =>
    rw [e] at w
    cases sv with
    | ob m c' ns' fs =>
      dsimp only at w
      split at w
      · rename_i hc
        obtain ⟨rfl, rfl⟩ := hc
        split at w
        · rename_i ds ek
          obtain ⟨p, dx, vs, L, h1, h2, h3, h4, h5, hl, h6⟩ := rs.atO e
          obtain ⟨q, xs, hv, hqL, hrq, hq, hx⟩ := h6.getL ek
          refine ⟨_, h1, p, _, dx, vs, .ref q, rfl, h4, h.cl, h.no, lookup_at h5 h.nd h.at_ hv, .inl ⟨rfl, xs, SqL.of hq⟩, ha.seq rs (W := WS C H0 ext D) w (fun _ q => WS.exc q rs.le rs.tb) (fun q => q) fun d v H2 e2 r2 hd w2 => ?_⟩
          split at w2
          · rename_i hsz
            refine ⟨q, xs, v, rfl, rfl, e2.l hq, sz_lt (by rw [hx.length]; omega), w2 _ _ _ (r2.wrF e h1 h2 h3 (e2.k _ _ h4 rfl) h5 (h6.mono e2.toEx.hid.le fun a o _ z n => e2.k a o z n) ek hv (e2.l hq) hrq ((hx.mono e2.toEx.hid.le).app (.cons hd .nil)))⟩
          · exact w2.elim
        · exact w.elim
      · exact w.elim
    | _ => exact w.elim
/-! ### methods -/
inductive RO where
  | ok (d : PD) (o : List FV)
  | exc (c : Str) (o : List FV)
  | stuck
def uni (Z r : AS) : AS := fun a => Z a ∨ r a
/-- what is wanted of a method -/
structure MtS (K : PySem.W.Frag) (c : Str) (ns : List Str) (ext r : AS) (p : Addr) (H : Hp) (r' : AS) (o : List FV) (H2 : Hp) : Prop where
  k : Ex (hid H r) H2
  t : LamX.Tabs Tabl.T H2
  r1 : ∀ a, r' a → r a ∨ Nn H a
  r2 : ∀ a, r' a → So H2 a
  s : SlotOk K (hid H2 (uni ext r')) H2 (some (.ref p)) r' (.ob false c ns o)
def WrM (C : Cn) (c : Str) (ns : List Str) (ext r : AS) (p : Addr) (H : Hp) (Q : VK) : RO → Prop
  | .ok d o => ∀ v r' H2, MtS C.K c ns ext r p H r' o H2 → Rp C.K (hid H2 (uni ext r')) v d → Q v H2
  | .exc x o => ∀ r' H2, MtS C.K c ns ext r p H r' o H2 → C.E (.ref (C.cl x)) none H2
  | .stuck => False
def spM (K : PySem.W.Frag) (cl : Str → Addr) (c : Str) (ns : List Str) (n : Nat) (F : List FV → List PD → RO) : Sp := fun vs H Q E => ∃ (ext r : AS) (p : Addr) (o : List FV) (us : List V) (ds : List PD), vs = .ref p :: us ∧ us.length = n ∧ LamX.Tabs Tabl.T H ∧ (∀ a, ext a → So H a) ∧ (∀ a, r a → So H a) ∧ (∀ a, r a → ¬ ext a) ∧
  SlotOk K (hid H (uni ext r)) H (some (.ref p)) r (.ob false c ns o) ∧ RpA K (hid H (uni ext r)) us ds ∧ WrM ⟨K, E, cl⟩ c ns ext r p H Q (F o ds)
/-- a method's own frame -/
def atSelf (c : Str) (ns : List Str) (e : En) (k : List FV → RO) : RO := match e[(0 : Nat)]? with
  | some (.ob true c' ns' o') => if c' = c ∧ ns' = ns then k o' else .stuck
  | _ => .stuck
def runM (N : Nat) (c : Str) (ns : List Str) (f : En → R Fl) (o : List FV) (ds : List PD) : RO := match f (.ob true c ns o :: (ds.map SV.sh ++ List.replicate (N - 1 - ds.length) SV.no)) with
  | .ok (.nx e) => atSelf c ns e (.ok .none)
  | .ok (.rm d e) => atSelf c ns e (.ok d)
  | .ok (.xm x e) => atSelf c ns e (.exc x)
  | _ => .stuck
/-- the same, another object's method runs -/
@[reducible] def meI (T : Tabl) (p : Addr) : Tabl := ⟨T.T, T.C, p⟩
end
section
variable {P : Program} {w : World} {K : PySem.W.Frag} {mg : Str → Option Value} {base : Heap}
theorem own_start {ext r : AS} : own ext (fun i a => i = 0 ∧ r a) = uni ext r := by
  funext a
  apply propext
  constructor
  · rintro (h | ⟨_, _, h⟩)
    · exact .inl h
    · exact .inr h
  · rintro (h | h)
    · exact .inl h
    · exact .inr ⟨0, rfl, h⟩
theorem RS.startM {T : Tabl} {K : PySem.W.Frag} {H : Hp} {ext r : AS} {p : Addr} {us : List V} {ds : List PD} {N : List Str} {c : Str} {ns : List Str} {o : List FV} (hN : 0 < N.length) (tb : LamX.Tabs T.T H) (hx : ∀ a, ext a → So H a) (hr : ∀ a, r a → So H a) (hd : ∀ a, r a → ¬ ext a)
    (s : @SlotOk T K (hid H (uni ext r)) H (some (.ref p)) r (.ob false c ns o)) (h : RpA K (hid H (uni ext r)) us ds) :
    @RS (meI T p) K (hid H r) ext (fun i a => i = 0 ∧ r a) (.ob true c ns o :: (ds.map SV.sh ++ List.replicate (N.length - 1 - ds.length) SV.no)) (L2.start N (.ref p :: us)) H := by
  letI : Tabl := meI T p
  refine ⟨hid_ex, tb, fun a z => ?_, fun i a ⟨_, z⟩ => ⟨.of (hid_no z), hr a z⟩, fun i j a ⟨q, _⟩ ⟨q', _⟩ => q.trans q'.symm, fun i a z => ⟨.ob true c ns o, by obtain ⟨q, _⟩ := z; subst q; rfl, rfl⟩, ?_, fun i sv e => ?_⟩
  · obtain ⟨u, q, t⟩ := hx a z
    exact ⟨u, by rw [hid_at fun y => hd a y z]; exact q, t⟩
  · unfold L2.start
    simp only [List.length_cons, List.length_append, List.length_map, List.length_replicate, h.length]
    omega
  · rw [own_start]
    unfold L2.start
    cases i with
    | zero =>
      cases e
      obtain ⟨p', dx, vs, L, h1, h2, h3, h4, h5, h6⟩ := s
      cases h1
      exact ⟨_, rfl, p, dx, vs, L, rfl, fun _ => rfl, ⟨rfl, h3⟩, h4, h5, h6.rg fun a z => ⟨rfl, z⟩⟩
    | succ i =>
      rw [List.getElem?_cons_succ] at e
      have hs : ∀ (x : Option V) (l : List (Option V)), (x :: l)[i + 1]? = l[i]? := fun _ _ => rfl
      rw [List.map_cons, List.cons_append, hs]
      by_cases hi : i < ds.length
      · rw [List.getElem?_append_left (by rw [List.length_map]; exact hi), List.getElem?_map, List.getElem?_eq_getElem hi] at e
        cases e
        obtain ⟨v, h1, h2⟩ := h.get (List.getElem?_eq_getElem hi)
        refine ⟨some v, ?_, v, rfl, h2⟩
        rw [List.getElem?_append_left (by rw [List.length_map, h.length]; exact hi), List.getElem?_map, h1]
        rfl
      · rw [List.getElem?_append_right (by rw [List.length_map]; omega), List.length_map, List.getElem?_replicate] at e
        split at e
        · rename_i hl
          cases e
          refine ⟨none, ?_, trivial⟩
          rw [List.getElem?_append_right (by rw [List.length_map, h.length]; omega), List.length_map, List.getElem?_replicate, h.length, if_pos (by have := h.length; simp only [List.length_cons]; omega)]
        · cases e
/-- what a frame leaves of its object -/
theorem RS.endM {T : Tabl} {K : PySem.W.Frag} {H H2 : Hp} {ext r : AS} {reg : Nat → AS} {p : Addr} {c : Str} {ns : List Str} {o : List FV} {e : En} {σ : L2.St} (r2 : @RS (meI T p) K (hid H r) ext reg e σ H2) (h : e[0]? = some (.ob true c ns o)) :
    ∃ r', @MtS T K c ns ext r p H r' o H2 ∧ ∀ a, uni ext r' a → own ext reg a := by
  letI : Tabl := meI T p
  obtain ⟨q, dx, vs, L, h1, h2, h3, h4, h5, hl, h6⟩ := r2.atO h
  have eq : q = p := h2 rfl
  subst eq
  have sub : ∀ a, uni ext (reg 0) a → own ext reg a := fun a z => z.imp (fun z => z) fun z => ⟨0, z⟩
  refine ⟨reg 0, @MtS.mk T K c ns ext r q H (reg 0) o H2 r2.le r2.tb (fun a z => ?_) (fun a z => (r2.rg 0 a z).2) ?_, sub⟩
  · by_cases hz : r a
    · exact .inl hz
    · refine .inr fun o q => ?_
      exact (r2.rg 0 a z).1 o (by rw [hid_at hz]; exact q)
  · exact ⟨q, dx, vs, L, rfl, (fun z => nomatch z), h3, h4, h5, h6.mono ((Ex.refl H2).hidLess sub).le fun _ _ _ z _ => z⟩
theorem def_okM {x qual : Str} {st : Stmt} {f : Addr} {fd : FuncData} {N : List Str} {s0 : Str} {ps : List Str} {k : Nat} {cl : Str → Addr} {c : Str} {ns : List Str} {body : En → R Fl} (F : Fun K x qual st f fd) (S : FnScope N (s0 :: ps) (defScope st)) (hN : 0 < N.length)
    (hb : ∀ (p : Addr) (cdv : Value) (A : Around) (outer : List Env) (s : Shared) (H : Hp) (E : XK), Room k (A.deeper (PyProof.Rows.envOfC qual (defScope st) s.heap.objs.size f cdv)) →
      ∃ t, PSs (cxOf (L2N.CX P w) P w K mg base N qual (defScope st) f cdv A outer s H E) (defBody st) t ∧ @Es (meI ‹Tabl› p) ⟨K, E, cl⟩ t body) :
    FnOk P w K mg base (L2N.CX P w) (k + 1) f fd (s0 :: ps) (spM K cl c ns ps.length (runM N.length c ns body)) := by
  refine okN F S (fun vs H Q E h => ?_) fun cdv A outer s H vs Q E hr h => ?_
  · obtain ⟨ext, r, p, o, us, ds, rfl, hl, _⟩ := h
    simp [hl]
  obtain ⟨ext, r, p, o, us, ds, rfl, hl, tb, hx, hr1, hd, so, hu, wr⟩ := h
  obtain ⟨t, ht, hs⟩ := hb p cdv A outer s H E hr
  refine ⟨t, ht, ?_⟩
  refine hs (hid H r) ext _ _ _ H (RS.startM hN tb hx hr1 hd so hu) _ ?_
  unfold runM at wr
  generalize body (.ob true c ns o :: (ds.map SV.sh ++ List.replicate (N.length - 1 - ds.length) SV.no)) = z at wr ⊢
  cases z with
  | exc c => exact wr.elim
  | stuck => exact wr.elim
  | ok fl =>
    cases fl with
    | rt d => exact wr.elim
    | bk d => exact wr.elim
    | ct d => exact wr.elim
    | pr i d e => exact wr.elim
    | nx e =>
      dsimp only at wr
      intro reg σ H2 r2
      unfold atSelf at wr
      split at wr
      · rename_i c' ns' o' ee
        split at wr
        · rename_i hc
          obtain ⟨rfl, rfl⟩ := hc
          obtain ⟨r', m, sub⟩ := RS.endM r2 ee
          exact wr _ r' H2 m .non
        · exact wr.elim
      · exact wr.elim
    | rn d e => exact wr.elim
    | rm d e =>
      dsimp only at wr
      intro v reg σ H2 r2 hv
      unfold atSelf at wr
      split at wr
      · rename_i c' ns' o' ee
        split at wr
        · rename_i hc
          obtain ⟨rfl, rfl⟩ := hc
          obtain ⟨r', m, sub⟩ := RS.endM r2 ee
          exact wr v r' H2 m (hv.mono ((Ex.refl H2).hidLess sub).le)
        · exact wr.elim
      · exact wr.elim
    | xm x e =>
      dsimp only at wr
      intro reg σ H2 r2
      unfold atSelf at wr
      split at wr
      · rename_i c' ns' o' ee
        split at wr
        · rename_i hc
          obtain ⟨rfl, rfl⟩ := hc
          obtain ⟨r', m, sub⟩ := RS.endM r2 ee
          exact wr r' H2 m
        · exact wr.elim
      · exact wr.elim
end
end Dn

/-! expressions that change objects; methods called, objects made. -/
namespace Dn
open PySem L2
variable [Tabl]
section
variable {C : Cn} {te ta tb : TE} {fa fb : En → R PD} {fe fg : En → R (PD × En)} {H0 H H2 : Hp} {ext : AS} {reg reg2 : Nat → AS} {en en2 : En} {σ : L2.St} {Q : VK}
theorem WrE.s {r : R PD} (w : WrE C H0 ext reg σ H Q (r.bind fun z => .ok (z, en2))) (e : Ex (hid H (own ext reg)) (hid H2 (own ext reg2))) (r2 : RS C.K H0 ext reg2 en2 σ H2) : WrS C (own ext reg2) H2 Q r := by
  cases r with
  | ok z => exact fun v H3 e3 h3 => w v reg2 H3 (e.trans e3.toEx.hid) (r2.ex e3) h3
  | exc c => exact fun H3 e3 => w H3 (r2.le.trans e3.toEx) (e3.t r2.tb)
  | stuck => exact w
theorem EdE.seq {β : Type} (h : EdE C te fe) (rs : RS C.K H0 ext reg en σ H) {W : R β → Prop} {g : PD × En → R β} (w : W ((fe en).bind g)) (hx : ∀ c, W (.exc c) → ∀ H2, Ex H0 H2 → LamX.Tabs Tabl.T H2 → C.E (.ref (C.cl c)) none H2) (hs : ¬ W .stuck)
    (k : ∀ d en1 v reg1 H1, Ex (hid H (own ext reg)) (hid H1 (own ext reg1)) → RS C.K H0 ext reg1 en1 σ H1 → Rp C.K (hid H1 (own ext reg1)) v d → W (g (d, en1)) → Q v H1) : te σ H Q := h H0 ext reg en σ H rs Q (by
  generalize fe en = x at w ⊢
  cases x with
  | ok p => exact fun v reg1 H1 e1 r1 hv => k p.1 p.2 v reg1 H1 e1 r1 hv w
  | exc c => exact hx c w
  | stuck => exact hs w)
theorem WrE.mv {r : R (PD × En)} (w : WrE C H0 ext reg σ H Q r) (e : Ex (hid H (own ext reg)) (hid H2 (own ext reg2))) : WrE C H0 ext reg2 σ H2 Q r := by
  cases r with
  | ok p => exact fun v reg' H3 e3 r3 h3 => w v reg' H3 (e.trans e3) r3 h3
  | exc c => exact w
  | stuck => exact w
def e2 (g : PD → PD → R PD) (fa fb : En → R (PD × En)) : En → R (PD × En) := fun en => (fa en).bind fun p => (fb p.2).bind fun q => (g p.1 q.1).bind fun z => .ok (z, q.2)
def e1 (g : PD → R PD) (fa : En → R (PD × En)) : En → R (PD × En) := fun en => (fa en).bind fun p => (g p.1).bind fun z => .ok (z, p.2)
theorem ee_op {r : R2} {g : PD → PD → R PD} (hr : Op2 C r g) (ha : EdE C ta fe) (hb : EdE C tb fg) : EdE C (tOp r ta tb) (e2 g fe fg) := fun H0 ext reg en σ H rs Q w =>
  ha.seq rs (W := WrE C H0 ext reg σ H Q) w (fun _ q => q) (fun q => q) fun x en1 v reg1 H1 e1 r1 hv w1 =>
    hb.seq r1 (W := WrE C H0 ext reg1 σ H1 Q) (w1.mv e1) (fun _ q => q) (fun q => q) fun y en2 u reg2 H2 e2 r2 hu w2 =>
      hr ext (own ext reg2) H2 v u x y Q (fun a z => .inl z) (fun a z => r2.there z) (.s (hv.mono e2.le)) (.s hu) (w2.s e2 r2)
theorem ee_un {r : V → Hp → VK → Prop} {g : PD → R PD} (hr : Op1 C r g) (ha : EdE C ta fe) : EdE C (tUn r ta) (e1 g fe) := fun H0 ext reg en σ H rs Q w =>
  ha.seq rs (W := WrE C H0 ext reg σ H Q) w (fun _ q => q) (fun q => q) fun x en1 v reg1 H1 e1 r1 hv w1 => hr ext (own ext reg1) H1 v x Q (fun a z => .inl z) (fun a z => r1.there z) (.s hv) (w1.s e1 r1)
theorem ee_not (ha : EdE C ta fe) : EdE C (tNotV ta) (e1 notD fe) := fun H0 ext reg en σ H rs Q w =>
  ha.seq rs (W := WrE C H0 ext reg σ H Q) w (fun _ q => q) (fun q => q) fun x en1 v reg1 H1 e1 r1 hv w1 => by
    cases x with
    | bool b => cases hv; exact ⟨b, rfl, (w1.s e1 r1) _ H1 (Xt.refl H1) (.bl _)⟩
    | _ => exact w1.elim
def eAndV (fa fb : En → R (PD × En)) : En → R (PD × En) := fun en => (fa en).bind fun p => match p.1 with
  | .bool true => fb p.2
  | .bool false => .ok (.bool false, p.2)
  | _ => .stuck
def eOrV (fa fb : En → R (PD × En)) : En → R (PD × En) := fun en => (fa en).bind fun p => match p.1 with
  | .bool true => .ok (.bool true, p.2)
  | .bool false => fb p.2
  | _ => .stuck
theorem ee_andV (ha : EdE C ta fe) (hb : EdE C tb fg) : EdE C (tAndV ta tb) (eAndV fe fg) := fun H0 ext reg en σ H rs Q w =>
  ha.seq rs (W := WrE C H0 ext reg σ H Q) w (fun _ q => q) (fun q => q) fun x en1 v reg1 H1 e1 r1 hv w1 => by
    cases x with
    | bool b =>
      cases hv
      refine ⟨b, rfl, ?_⟩
      cases b with
      | true =>
        show tb σ H1 Q
        exact hb H0 ext reg1 en1 σ H1 r1 Q (WrE.mv w1 e1)
      | false =>
        show Q (.bl false) H1
        exact w1 _ reg1 H1 e1 r1 (.bl false)
    | _ => exact w1.elim
theorem ee_orV (ha : EdE C ta fe) (hb : EdE C tb fg) : EdE C (tOrV ta tb) (eOrV fe fg) := fun H0 ext reg en σ H rs Q w =>
  ha.seq rs (W := WrE C H0 ext reg σ H Q) w (fun _ q => q) (fun q => q) fun x en1 v reg1 H1 e1 r1 hv w1 => by
    cases x with
    | bool b =>
      cases hv
      refine ⟨b, rfl, ?_⟩
      cases b with
      | true =>
        show Q (.bl true) H1
        exact w1 _ reg1 H1 e1 r1 (.bl true)
      | false =>
        show tb σ H1 Q
        exact hb H0 ext reg1 en1 σ H1 r1 Q (WrE.mv w1 e1)
    | _ => exact w1.elim
/-! ### arguments -/
def WrEA (C : Cn) (H0 : Hp) (ext : AS) (reg : Nat → AS) (σ : L2.St) (H : Hp) (Q : List V → Hp → Prop) : R (List PD × En) → Prop
  | .ok (ds, en') => ∀ vs reg' H2, Ex (hid H (own ext reg)) (hid H2 (own ext reg')) → RS C.K H0 ext reg' en' σ H2 → RpA C.K (hid H2 (own ext reg')) vs ds → Q vs H2
  | .exc c => ∀ H2, Ex H0 H2 → LamX.Tabs Tabl.T H2 → C.E (.ref (C.cl c)) none H2
  | .stuck => False
def EdEA (C : Cn) (ta : TA) (f : En → R (List PD × En)) : Prop := ∀ (H0 : Hp) (ext : AS) (reg : Nat → AS) (en : En) (σ : L2.St) (H : Hp), RS C.K H0 ext reg en σ H → ∀ Q, WrEA C H0 ext reg σ H Q (f en) → ta σ H Q
def eaS (fa : En → R (List PD)) : En → R (List PD × En) := fun en => (fa en).bind fun ds => .ok (ds, en)
def eaNil : En → R (List PD × En) := fun en => .ok ([], en)
def eaCons (fe : En → R (PD × En)) (fr : En → R (List PD × En)) : En → R (List PD × En) := fun en => (fe en).bind fun p => (fr p.2).bind fun q => .ok (p.1 :: q.1, q.2)
theorem eea_S {t : TA} {fa : En → R (List PD)} (h : EdA C t fa) : EdEA C t (eaS fa) := fun H0 ext reg en σ H rs Q w =>
  h.seq rs (W := WrEA C H0 ext reg σ H Q) w (fun _ q H2 e2 => q H2 (rs.le.trans e2.toEx) (e2.t rs.tb)) (fun q => q) fun ds vs H2 e2 r2 h2 w2 => w2 vs reg H2 e2.toEx.hid r2 h2
theorem eea_nil : EdEA C tNil eaNil := fun H0 ext reg en σ H rs Q w => w [] reg H (Ex.refl _) rs .nil
theorem eea_cons {t : TA} {fr : En → R (List PD × En)} (ha : EdE C ta fe) (hb : EdEA C t fr) : EdEA C (tCons ta t) (eaCons fe fr) := fun H0 ext reg en σ H rs Q w =>
  ha.seq rs (W := WrEA C H0 ext reg σ H Q) w (fun _ q => q) (fun q => q) fun x en1 v reg1 H1 e1 r1 hv w1 => hb H0 ext reg1 en1 σ H1 r1 _ (by
    dsimp only at w1
    generalize fr en1 = z at w1 ⊢
    cases z with
    | ok p => exact fun vs reg2 H2 e2 r2 hvs => w1 (v :: vs) reg2 H2 (e1.trans e2) r2 (.cons (hv.mono e2.le) hvs)
    | exc c => exact w1
    | stuck => exact w1)
def eN (g : List PD → R PD) (fa : En → R (List PD × En)) : En → R (PD × En) := fun en => (fa en).bind fun p => (g p.1).bind fun z => .ok (z, p.2)
theorem EdEA.seq {β : Type} {t : TA} {f : En → R (List PD × En)} (h : EdEA C t f) (rs : RS C.K H0 ext reg en σ H) {Q : List V → Hp → Prop} {W : R β → Prop} {g : List PD × En → R β} (w : W ((f en).bind g)) (hx : ∀ c, W (.exc c) → ∀ H2, Ex H0 H2 → LamX.Tabs Tabl.T H2 → C.E (.ref (C.cl c)) none H2) (hs : ¬ W .stuck)
    (k : ∀ ds en1 vs reg1 H1, Ex (hid H (own ext reg)) (hid H1 (own ext reg1)) → RS C.K H0 ext reg1 en1 σ H1 → RpA C.K (hid H1 (own ext reg1)) vs ds → W (g (ds, en1)) → Q vs H1) : t σ H Q := h H0 ext reg en σ H rs Q (by
  generalize f en = x at w ⊢
  cases x with
  | ok p => exact fun v reg1 H1 e1 r1 hv => k p.1 p.2 v reg1 H1 e1 r1 hv w
  | exc c => exact hx c w
  | stuck => exact hs w)
theorem RpA.la {K : PySem.W.Frag} {Hs H : Hp} : ∀ {vs : List V} {ds : List PD}, RpA K Hs vs ds → RpLA K Hs H vs ds
  | _, _, .nil => .nil
  | _, _, .cons h r => .cons (.s h) (RpA.la r)
theorem ee_cb {t : TA} {f : En → R (List PD × En)} {r : List V → Hp → VK → Prop} {g : List PD → R PD} (hr : OpN C r g) (ha : EdEA C t f) : EdE C (tCB r t) (eN g f) := fun H0 ext reg en σ H rs Q w =>
  ha.seq rs (W := WrE C H0 ext reg σ H Q) w (fun _ q => q) (fun q => q) fun ds en1 vs reg1 H1 e1 r1 hv w1 => hr ext (own ext reg1) H1 vs ds Q (fun a z => .inl z) (fun a z => r1.there z) hv.la (w1.s e1 r1)
theorem ee_tup {t : TA} {f : En → R (List PD × En)} (ha : EdEA C t f) : EdE C (tTup t) (eN mkT f) := fun H0 ext reg en σ H rs Q w =>
  ha.seq rs (W := WrE C H0 ext reg σ H Q) w (fun _ q => q) (fun q => q) fun ds en1 vs reg1 H1 e1 r1 hv w1 => (w1.s e1 r1).newT (fun a z => r1.there z) hv
theorem ee_lst {t : TA} {f : En → R (List PD × En)} (ha : EdEA C t f) : EdE C (tLst t) (eN mkL f) := fun H0 ext reg en σ H rs Q w =>
  ha.seq rs (W := WrE C H0 ext reg σ H Q) w (fun _ q => q) (fun q => q) fun ds en1 vs reg1 H1 e1 r1 hv w1 => (w1.s e1 r1).newL (fun a z => r1.there z) hv
theorem ee_callN {n : Nat} {F : List PD → R PD} {t : TA} {f : En → R (List PD × En)} (hn : ∀ en p, f en = .ok p → p.1.length = n) (ha : EdEA C t f) : EdE C (tCall (spF C.K C.cl n F) [] C.E t) (eN F f) := fun H0 ext reg en σ H rs Q w => ha H0 ext reg en σ H rs _ (by
  unfold eN at w
  cases e : f en with
  | ok p =>
    rw [e] at w
    intro vs reg1 H1 e1 r1 hv
    exact ⟨own ext reg1, p.1, by rw [List.append_nil, hv.length, hn en p e], r1.tb, fun a z => r1.so z, by rw [List.append_nil]; exact hv, WrE.s w e1 r1⟩
  | exc c => rw [e] at w; exact w
  | stuck => rw [e] at w; exact w.elim)
/-! ### tests -/
def WrTE (C : Cn) (H0 : Hp) (ext : AS) (reg : Nat → AS) (σ : L2.St) (H : Hp) (Q : Bool → Hp → Prop) : R (Bool × En) → Prop
  | .ok (b, en') => ∀ reg' H2, Ex (hid H (own ext reg)) (hid H2 (own ext reg')) → RS C.K H0 ext reg' en' σ H2 → Q b H2
  | .exc c => ∀ H2, Ex H0 H2 → LamX.Tabs Tabl.T H2 → C.E (.ref (C.cl c)) none H2
  | .stuck => False
def EdTE (C : Cn) (tt : TT) (f : En → R (Bool × En)) : Prop := ∀ (H0 : Hp) (ext : AS) (reg : Nat → AS) (en : En) (σ : L2.St) (H : Hp), RS C.K H0 ext reg en σ H → ∀ Q, WrTE C H0 ext reg σ H Q (f en) → tt σ H Q
theorem EdTE.seq {β : Type} {t : TT} {f : En → R (Bool × En)} (h : EdTE C t f) (rs : RS C.K H0 ext reg en σ H) {Q : Bool → Hp → Prop} {W : R β → Prop} {g : Bool × En → R β} (w : W ((f en).bind g)) (hx : ∀ c, W (.exc c) → ∀ H2, Ex H0 H2 → LamX.Tabs Tabl.T H2 → C.E (.ref (C.cl c)) none H2) (hs : ¬ W .stuck)
    (k : ∀ b en1 reg1 H1, Ex (hid H (own ext reg)) (hid H1 (own ext reg1)) → RS C.K H0 ext reg1 en1 σ H1 → W (g (b, en1)) → Q b H1) : t σ H Q := h H0 ext reg en σ H rs Q (by
  generalize f en = x at w ⊢
  cases x with
  | ok p => exact fun reg1 H1 e1 r1 => k p.1 p.2 reg1 H1 e1 r1 w
  | exc c => exact hx c w
  | stuck => exact hs w)
theorem WrTE.mv {Q : Bool → Hp → Prop} {r : R (Bool × En)} (w : WrTE C H0 ext reg σ H Q r) (e : Ex (hid H (own ext reg)) (hid H2 (own ext reg2))) : WrTE C H0 ext reg2 σ H2 Q r := by
  cases r with
  | ok p => exact fun reg' H3 e3 r3 => w reg' H3 (e.trans e3) r3
  | exc c => exact w
  | stuck => exact w
variable {t u : TT} {ft fu : En → R Bool} {gt gu : En → R (Bool × En)}
def tS (ft : En → R Bool) : En → R (Bool × En) := fun en => (ft en).bind fun b => .ok (b, en)
def tE (fe : En → R (PD × En)) : En → R (Bool × En) := fun en => (fe en).bind fun p => (asB p.1).bind fun b => .ok (b, p.2)
def tNo (f : En → R (Bool × En)) : En → R (Bool × En) := fun en => (f en).bind fun p => .ok (!p.1, p.2)
def tAn (f g : En → R (Bool × En)) : En → R (Bool × En) := fun en => (f en).bind fun p => match p.1 with
  | true => g p.2
  | false => .ok (false, p.2)
def tO (f g : En → R (Bool × En)) : En → R (Bool × En) := fun en => (f en).bind fun p => match p.1 with
  | true => .ok (true, p.2)
  | false => g p.2
theorem te_S (h : EdT C t ft) : EdTE C t (tS ft) := fun H0 ext reg en σ H rs Q w =>
  h.seq rs (W := WrTE C H0 ext reg σ H Q) w (fun _ q H2 e2 => q H2 (rs.le.trans e2.toEx) (e2.t rs.tb)) (fun q => q) fun b H2 e2 r2 w2 => w2 reg H2 e2.toEx.hid r2
theorem te_E (h : EdE C te fe) : EdTE C (tTest te) (tE fe) := fun H0 ext reg en σ H rs Q w =>
  h.seq rs (W := WrTE C H0 ext reg σ H Q) w (fun _ q => q) (fun q => q) fun x en1 v reg1 H1 e1 r1 hv w1 => by
    cases x with
    | bool b => cases hv; exact ⟨b, rfl, w1 reg1 H1 e1 r1⟩
    | _ => exact w1.elim
theorem te_B (h : EdE C te fe) : EdTE C (tB te) (tE fe) := te_E h
theorem te_not (h : EdTE C t gt) : EdTE C (tNot t) (tNo gt) := fun H0 ext reg en σ H rs Q w =>
  h.seq rs (W := WrTE C H0 ext reg σ H Q) w (fun _ q => q) (fun q => q) fun b en1 reg1 H1 e1 r1 w1 => w1 reg1 H1 e1 r1
theorem te_and (h : EdTE C t gt) (h' : EdTE C u gu) : EdTE C (tAnd t u) (tAn gt gu) := fun H0 ext reg en σ H rs Q w =>
  h.seq rs (W := WrTE C H0 ext reg σ H Q) w (fun _ q => q) (fun q => q) fun b en1 reg1 H1 e1 r1 w1 => by
    cases b with
    | true =>
      show u σ H1 Q
      exact h' H0 ext reg1 en1 σ H1 r1 Q (WrTE.mv w1 e1)
    | false =>
      show Q false H1
      exact w1 reg1 H1 e1 r1
theorem te_or (h : EdTE C t gt) (h' : EdTE C u gu) : EdTE C (tOr t u) (tO gt gu) := fun H0 ext reg en σ H rs Q w =>
  h.seq rs (W := WrTE C H0 ext reg σ H Q) w (fun _ q => q) (fun q => q) fun b en1 reg1 H1 e1 r1 w1 => by
    cases b with
    | true =>
      show Q true H1
      exact w1 reg1 H1 e1 r1
    | false =>
      show u σ H1 Q
      exact h' H0 ext reg1 en1 σ H1 r1 Q (WrTE.mv w1 e1)
/-! ### statements -/
variable {ts us : TS} {f g : En → R Fl}
def sIfE (ft : En → R (Bool × En)) (f g : En → R Fl) : En → R Fl := fun en => (ft en).bind fun p => match p.1 with
  | true => f p.2
  | false => g p.2
theorem es_ifE (h : EdTE C t gt) (h1 : Es C ts f) (h2 : Es C us g) : Es C (tIfS t ts us) (sIfE gt f g) := fun H0 ext reg en σ H rs D w =>
  h.seq rs (W := WS C H0 ext D) w (fun _ q => q) (fun q => q) fun b en1 reg1 H1 e1 r1 w1 => by
    cases b with
    | true => exact h1 H0 ext reg1 en1 σ H1 r1 D w1
    | false => exact h2 H0 ext reg1 en1 σ H1 r1 D w1
def sRetE (fe : En → R (PD × En)) : En → R Fl := fun en => (fe en).bind fun p => .ok (.rt p.1)
theorem es_retE (h : EdE C te fe) : Es C (tRet te) (sRetE fe) := fun H0 ext reg en σ H rs D w =>
  h.seq rs (W := WS C H0 ext D) w (fun _ q => q) (fun q => q) fun x en1 v reg1 H1 e1 r1 hv w1 => w1 v H1 r1.le r1.tb (hv.mono ((Ex.refl H1).hidLess fun a z => .inl z).le)
/-- a method returns -/
def sRetM (fe : En → R (PD × En)) : En → R Fl := fun en => (fe en).bind fun p => .ok (.rm p.1 p.2)
theorem es_retM (h : EdE C te fe) : Es C (tRet te) (sRetM fe) := fun H0 ext reg en σ H rs D w =>
  h.seq rs (W := WS C H0 ext D) w (fun _ q => q) (fun q => q) fun x en1 v reg1 H1 e1 r1 hv w1 => w1 v reg1 σ H1 r1 hv
/-- .. raises -/
def sRaiseM (c : Str) : En → R Fl := fun en => .ok (.xm c en)
theorem es_raiseM (c : Str) : Es C (fun _ σ H => (fun (_ : L2.St) (H : Hp) (Q : XK) => Q (.ref (C.cl c)) none H) σ H fun cls d H' => (fun cls d (_ : L2.St) H => C.E cls d H) cls d σ H') (sRaiseM c) := fun H0 ext reg en σ H rs D w => w reg σ H rs
/-- .. calls what may raise -/
def sDropX (fa : En → R PD) : En → R Fl := fun en => match fa en with
  | .ok _ => .ok (.nx en)
  | .exc c => .ok (.xm c en)
  | .stuck => .stuck
theorem es_dropX (h : EdS C te fa) : Es C (tDrop te) (sDropX fa) := fun H0 ext reg en σ H rs D w => h H0 ext reg en σ H rs _ (by
  unfold sDropX at w
  generalize fa en = x at w ⊢
  cases x with
  | ok d => exact fun v H2 e2 hv => w reg σ H2 (rs.ex e2)
  | exc c => exact fun H2 e2 => w reg σ H2 (rs.ex e2)
  | stuck => exact w)
def sAppE (i : Nat) (fe : En → R (PD × En)) : En → R Fl := fun en => match en[i]? with
  | some (.ol _) => (fe en).bind fun p => match p.2[i]? with
    | some (.ol ds) => if ds.length + 1 ≤ szN then .ok (.nx (p.2.set i (.ol (ds ++ [p.1])))) else .stuck
    | _ => .stuck
  | _ => .stuck
theorem es_appE {i : Nat} (h : EdE C te fe) : Es C (tDrop (tBM C.K "list" rAppend (tVar i) (tCons te tNil))) (sAppE i fe) := fun H0 ext reg en σ H rs D w => by
  unfold sAppE at w
  cases e : en[i]? with
  | none => rw [e] at w; exact w.elim
  | some sv =>
    rw [e] at w
    cases sv with
    | ol ds0 =>
      obtain ⟨p, xs, h1, h2, h3, h4⟩ := rs.at e
      refine ⟨.ref p, h1, .inl ⟨rfl, xs, SqL.of h3⟩, h.seq rs (W := WS C H0 ext D) w (fun _ q => q) (fun q => q) fun d en1 v reg1 H1 e1 r1 hv w1 => ?_⟩
      dsimp only at w1
      cases e' : en1[i]? with
      | none => rw [e'] at w1; exact w1.elim
      | some sv' =>
        rw [e'] at w1
        cases sv' with
        | ol ds =>
          obtain ⟨p', xs', h1', h2', h3', h4'⟩ := r1.at e'
          have ep : p' = p := by
            rw [h1] at h1'
            cases h1'
            rfl
          subst ep
          dsimp only at w1
          split at w1
          · rename_i hl
            refine ⟨p', xs', v, rfl, rfl, h3', sz_lt (by rw [h4'.length]; omega), w1 _ _ _ (r1.wr (sv := .ol (ds ++ [d])) rfl ⟨_, h3', rfl⟩ h2' h1' ?_)⟩
            exact ⟨p', xs' ++ [v], rfl, h2', upd_same, h4'.app (.cons hv .nil)⟩
          · exact w1.elim
        | _ => exact w1.elim
    | _ => exact w.elim
def loopWE (ft : En → R (Bool × En)) (body : En → R Fl) : Nat → En → R Fl
  | 0, _ => .stuck
  | n + 1, en => (ft en).bind fun p => match p.1 with
    | false => .ok (.nx p.2)
    | true => (body p.2).bind fun fl => match fl with
      | .nx e2 => loopWE ft body n e2
      | .ct e2 => loopWE ft body n e2
      | .bk e2 => .ok (.nx e2)
      | .rt d => .ok (.rt d)
      | .rm d e2 => .ok (.rm d e2)
      | .rn d e2 => .ok (.rn d e2)
      | .xm d e2 => .ok (.xm d e2)
      | .pr i d e2 => .ok (.pr i d e2)
def sWhileE (fuel : Nat) (ft : En → R (Bool × En)) (body : En → R Fl) : En → R Fl := loopWE ft body fuel
theorem es_whileE {tb : TS} {body : En → R Fl} (fuel : Nat) (ht : EdTE C t gt) (hb : Es C tb body) : Es C (tWhile t tb) (sWhileE fuel gt body) := fun H0 ext reg en σ H rs D w => by
  refine ⟨fun m σ' H' => ∃ reg' en', RS C.K H0 ext reg' en' σ' H' ∧ WS C H0 ext D (loopWE gt body m en'), ⟨fuel, reg, en, rs, w⟩, ?_⟩
  rintro m σ' H' ⟨reg', en', r', w'⟩
  cases m with
  | zero => exact w'.elim
  | succ n =>
    unfold loopWE at w'
    refine ht.seq r' (W := WS C H0 ext D) w' (fun _ q => q) (fun q => q) fun b en1 reg1 H2 e2 r2 w2 => ?_
    cases b with
    | false => exact w2 reg1 σ' H2 r2
    | true =>
      refine ⟨fun σ3 H3 => ∃ reg3 en3, RS C.K H0 ext reg3 en3 σ3 H3 ∧ WS C H0 ext D (loopWE gt body n en3), fun σ3 H3 q => ⟨n, Nat.lt_succ_self n, q⟩, hb H0 ext reg1 en1 σ' H2 r2 _ ?_⟩
      dsimp only at w2
      cases eb : body en1 with
      | exc c => rw [eb] at w2; exact w2
      | stuck => rw [eb] at w2; exact w2.elim
      | ok fl =>
        rw [eb] at w2
        simp only [R.bind_ok] at w2
        cases fl with
        | nx e3 => exact fun reg3 σ3 H3 r3 => ⟨reg3, e3, r3, w2⟩
        | ct e3 => exact fun reg3 σ3 H3 r3 => ⟨reg3, e3, r3, w2⟩
        | bk e3 => exact fun reg3 σ3 H3 r3 => w2 reg3 σ3 H3 r3
        | rt d => exact fun v H3 q tb h3 => w2 v H3 q tb h3
        | rm d e3 => exact w2
        | rn d e3 => exact w2
        | xm d e3 => exact w2
        | pr i d e3 => exact w2
/-! ### with what the object is when it raises -/
inductive RX where
  | ok (d : PD) (en : En)
  | exc (c : Str) (en : En)
  | stuck
def WrX (C : Cn) (H0 : Hp) (ext : AS) (reg : Nat → AS) (σ : L2.St) (H : Hp) (Q : VK) : RX → Prop
  | .ok d en' => ∀ v reg' H2, Ex (hid H (own ext reg)) (hid H2 (own ext reg')) → RS C.K H0 ext reg' en' σ H2 → Rp C.K (hid H2 (own ext reg')) v d → Q v H2
  | .exc c en' => ∀ reg' H2, Ex (hid H (own ext reg)) (hid H2 (own ext reg')) → RS C.K H0 ext reg' en' σ H2 → C.E (.ref (C.cl c)) none H2
  | .stuck => False
def EdX (C : Cn) (te : TE) (f : En → RX) : Prop := ∀ (H0 : Hp) (ext : AS) (reg : Nat → AS) (en : En) (σ : L2.St) (H : Hp), RS C.K H0 ext reg en σ H → ∀ Q, WrX C H0 ext reg σ H Q (f en) → te σ H Q
def eX (f : En → RX) : En → R (PD × En) := fun en => match f en with
  | .ok d e => .ok (d, e)
  | .exc c _ => .exc c
  | .stuck => .stuck
theorem ee_X {fx : En → RX} (h : EdX C te fx) : EdE C te (eX fx) := fun H0 ext reg en σ H rs Q w => h H0 ext reg en σ H rs Q (by
  unfold eX at w
  generalize fx en = x at w ⊢
  cases x with
  | ok d e => exact w
  | exc c e => exact fun reg' H2 e2 r2 => w H2 r2.le r2.tb
  | stuck => exact w)
def eTld (cs : List Str) (f : En → RX) : En → R (PD × En) := fun en => match f en with
  | .ok d e => .ok (d, e)
  | .exc c e => if c ∈ cs then .ok (.str c, e) else .stuck
  | .stuck => .stuck
theorem ee_told {cs : List Str} {tb : XK → TE} {fx : En → RX} (h : ∀ E, EdX ⟨C.K, E, C.cl⟩ (tb E) fx) : EdE C (tTold C.cl cs tb) (eTld cs fx) := fun H0 ext reg en σ H rs Q w => by
  refine ⟨rs.tb, fun H1 e1 t1 => ?_⟩
  have x1 := xt_lam e1 t1
  refine h (eTold C.cl cs Q) H0 ext reg en σ H1 (rs.ex x1) Q ?_
  unfold eTld at w
  generalize fx en = r at w ⊢
  cases r with
  | ok d e => exact fun v reg' H2 e2 r2 hv => w v reg' H2 (x1.toEx.hid.trans e2) r2 hv
  | exc c e =>
    dsimp only at w
    split at w
    · rename_i hc
      exact fun reg' H2 e2 r2 => ⟨c, hc, rfl, rfl, r2.tb, fun H3 e3 => w _ reg' H3 ((x1.toEx.hid.trans e2).trans e3.toEx.hid) (r2.ex e3) (.str _)⟩
    · exact w.elim
  | stuck => exact w.elim
/-! ### o.m(..) -/
def xMeth (i : Nat) (c : Str) (ns : List Str) (F : List FV → List PD → RO) (fe : En → R (List PD × En)) : En → RX := fun en => match en[i]? with
  | some (.ob _ c' ns' _) => if c' = c ∧ ns' = ns then match fe en with
      | .ok (ds, en1) => (match en1[i]? with
        | some (.ob m c'' ns'' o) => if c'' = c ∧ ns'' = ns then match F o ds with
            | .ok d o' => .ok d (en1.set i (.ob m c ns o'))
            | .exc x o' => .exc x (en1.set i (.ob m c ns o'))
            | .stuck => .stuck
          else .stuck
        | _ => .stuck)
      | _ => .stuck
    else .stuck
  | _ => .stuck
theorem uni_own {i : Nat} : uni (own ext (drp reg i)) (reg i) = own ext reg := by
  funext a
  apply propext
  constructor
  · rintro (z | z)
    · exact own_drp z
    · exact .inr ⟨i, z⟩
  · rintro (z | ⟨j, z⟩)
    · exact .inl (.inl z)
    · by_cases hj : j = i
      · exact .inr (hj ▸ z)
      · exact .inl (.inr ⟨j, hj, z⟩)
theorem uni_upR {i : Nat} {r' : AS} : uni (own ext (drp reg i)) r' = own ext (upR reg i r') := by
  funext a
  apply propext
  constructor
  · rintro ((z | ⟨j, hj, z⟩) | z)
    · exact .inl z
    · exact .inr ⟨j, .inl ⟨hj, z⟩⟩
    · exact .inr ⟨i, .inr ⟨rfl, z⟩⟩
  · rintro (z | ⟨j, ⟨hj, z⟩ | ⟨hj, z⟩⟩)
    · exact .inl (.inl z)
    · exact .inl (.inr ⟨j, hj, z⟩)
    · exact .inr z
/-- the call of what has the object first -/
theorem RS.spO {K : PySem.W.Frag} {cl : Str → Addr} {E : XK} (r1 : RS K H0 ext reg en σ H) {i n : Nat} {m : Bool} {c : Str} {ns : List Str} {o : List FV} {F : List FV → List PD → RO} {us : List V} {ds : List PD} {p : Addr} (e : en[i]? = some (.ob m c ns o)) (hp : σ[i]? = some (some (.ref p))) (hl : us.length = n) (hu : RpA K (hid H (own ext reg)) us ds)
    (w : match F o ds with
      | .ok d o' => ∀ v reg' H2, Ex (hid H (own ext reg)) (hid H2 (own ext reg')) → RS K H0 ext reg' (en.set i (.ob m c ns o')) σ H2 → Rp K (hid H2 (own ext reg')) v d → Q v H2
      | .exc x o' => ∀ reg' H2, Ex (hid H (own ext reg)) (hid H2 (own ext reg')) → RS K H0 ext reg' (en.set i (.ob m c ns o')) σ H2 → E (.ref (cl x)) none H2
      | .stuck => False) : spM K cl c ns n F (.ref p :: us) H Q E := by
  obtain ⟨p', dx, vs, L, h1, h2, h3, h4, h5, hlen, h6⟩ := r1.atO e
  have ep : p' = p := by
    rw [hp] at h1
    cases h1
    rfl
  subst ep
  refine ⟨own ext (drp reg i), reg i, p', o, us, ds, rfl, hl, r1.tb, fun a z => r1.so (own_drp z), fun a z => (r1.rg i a z).2, fun a z y => ?_, ?_, by rw [uni_own]; exact hu, ?_⟩
  · rcases y with y | ⟨j, hj, y⟩
    · exact r1.noext z y
    · exact hj (r1.dj j i a y z)
  · rw [uni_own]
    exact ⟨p', dx, vs, L, rfl, (fun z => nomatch z), h3, h4, h5, h6⟩
  · have key : ∀ r' o' H2, MtS K c ns (own ext (drp reg i)) (reg i) p' H r' o' H2 → Ex (hid H (own ext reg)) (hid H2 (own ext (upR reg i r'))) ∧ RS K H0 ext (upR reg i r') (en.set i (.ob m c ns o')) σ H2 := fun r' o' H2 M => by
      have k1 : ∀ a o, ¬ reg i a → H a = some o → isTb o = false → H2 a = some o := fun a o na ha n => M.k.k a o (by rw [hid_at na]; exact ha) n
      refine ⟨r1.chg_up k1 M.r1, r1.chg (lt_of_some e) rfl h1 k1 M.t M.r1 M.r2 ?_⟩
      obtain ⟨q, dx', vs', L', g1, g2, g3, g4, g5, g6⟩ := M.s
      cases g1
      rw [uni_upR] at g6
      exact ⟨p', dx', vs', L', rfl, h2, g3, g4, g5, g6⟩
    generalize F o ds = z at w ⊢
    cases z with
    | ok d o' =>
      intro v r' H2 M hv
      obtain ⟨a1, a2⟩ := key r' o' H2 M
      exact w v _ H2 a1 a2 (by rw [uni_upR] at hv; exact hv)
    | exc x o' =>
      intro r' H2 M
      obtain ⟨a1, a2⟩ := key r' o' H2 M
      exact w _ H2 a1 a2
    | stuck => exact w.elim
theorem ex_meth {i n : Nat} {c m : Str} {ns : List Str} {F : List FV → List PD → RO} {tA : TA} {fe : En → R (List PD × En)} (hm : m ∉ ns) (hn : ∀ en p, fe en = .ok p → p.1.length = n) (ha : EdEA C.n tA fe) : EdX C (tMeth (Tabl.C c) m (spM C.K C.cl c ns n F) [] C.E (tVar i) tA) (xMeth i c ns F fe) := fun H0 ext reg en σ H rs Q w => by
  unfold xMeth at w
  cases e : en[i]? with
  | none => rw [e] at w; exact w.elim
  | some sv =>
    rw [e] at w
    cases sv with
    | ob m0 c' ns' o0 =>
      dsimp only at w
      split at w
      case isFalse => exact w.elim
      rename_i hc
      obtain ⟨rfl, rfl⟩ := hc
      obtain ⟨p, dx, vs, L, h1, h2, h3, h4, h5, hl, h6⟩ := rs.atO e
      refine ⟨_, h1, p, dx, vs, rfl, h4, lookup_no h5 hm, ha H0 ext reg en σ H rs _ ?_⟩
      cases ef : fe en with
      | exc x => rw [ef] at w; exact w.elim
      | stuck => rw [ef] at w; exact w.elim
      | ok z =>
        obtain ⟨ds, en1⟩ := z
        rw [ef] at w
        dsimp only at w
        intro us reg1 H1 e1 r1 hu
        split at w
        · rename_i m1 c'' ns'' o ee
          split at w
          case isFalse => exact w.elim
          rename_i hc
          obtain ⟨rfl, rfl⟩ := hc
          rw [List.append_nil]
          refine r1.spO ee h1 (by rw [hu.length]; exact hn en _ ef) hu ?_
          generalize F o ds = z at w ⊢
          cases z with
          | ok d o' => exact fun v reg' H2 e2 r2 hv => w v reg' H2 (e1.trans e2) r2 hv
          | exc x o' => exact fun reg' H2 e2 r2 => w reg' H2 (e1.trans e2) r2
          | stuck => exact w
        · exact w.elim
    | _ => exact w.elim
/-- f(o, ..), f has the object first -/
def xCallO (i : Nat) (c : Str) (ns : List Str) (F : List FV → List PD → RO) (fa : En → R (List PD)) : En → RX := fun en => match en[i]? with
  | some (.ob m c' ns' o) => if c' = c ∧ ns' = ns then match fa en with
      | .ok ds => (match F o ds with
        | .ok d o' => .ok d (en.set i (.ob m c ns o'))
        | .exc x o' => .exc x (en.set i (.ob m c ns o'))
        | .stuck => .stuck)
      | _ => .stuck
    else .stuck
  | _ => .stuck
theorem ex_callO {i n : Nat} {c : Str} {ns : List Str} {F : List FV → List PD → RO} {tA : TA} {fa : En → R (List PD)} (hn : ∀ en ds, fa en = .ok ds → ds.length = n) (ha : EdA C.n tA fa) : EdX C (tCall (spM C.K C.cl c ns n F) [] C.E (tCons (tVar i) tA)) (xCallO i c ns F fa) := fun H0 ext reg en σ H rs Q w => by
  unfold xCallO at w
  cases e : en[i]? with
  | none => rw [e] at w; exact w.elim
  | some sv =>
    rw [e] at w
    cases sv with
    | ob m0 c' ns' o =>
      dsimp only at w
      split at w
      case isFalse => exact w.elim
      rename_i hc
      obtain ⟨rfl, rfl⟩ := hc
      obtain ⟨p, dx, vs, L, h1, h2, h3, h4, h5, hl, h6⟩ := rs.atO e
      refine ⟨_, h1, ha H0 ext reg en σ H rs _ ?_⟩
      cases ef : fa en with
      | exc x => rw [ef] at w; exact w.elim
      | stuck => rw [ef] at w; exact w.elim
      | ok ds =>
        rw [ef] at w
        dsimp only at w
        intro us H1 e1 hu
        show spM C.K C.cl c' ns' n F ((.ref p :: us) ++ []) H1 Q C.E
        rw [List.append_nil]
        refine (rs.ex e1).spO e h1 (by rw [hu.length]; exact hn en _ ef) hu ?_
        generalize F o ds = z at w ⊢
        cases z with
        | ok d o' => exact fun v reg' H2 e2 r2 hv => w v reg' H2 (e1.toEx.hid.trans e2) r2 hv
        | exc x o' => exact fun reg' H2 e2 r2 => w reg' H2 (e1.toEx.hid.trans e2) r2
        | stuck => exact w
    | _ => exact w.elim
/-! ### x = C(..) -/
theorem mk_sp {K : PySem.W.Frag} {cl : Str → Addr} {E : XK} {c : Str} {ns : List Str} {n : Nat} {F : List FV → List PD → RO} {us : List V} {ds : List PD} {x dx : Addr} {Q : VK} (r1 : RS K H0 ext reg en σ H) (hl : us.length = n) (hu : RpA K (hid H (own ext reg)) us ds) (nx : H x = none) (nd : H dx = none) (ne : dx ≠ x)
    (w : match F [] ds with
      | .ok .none o => ∀ r' H2, Xt H H2 → (∀ a, r' a → Nn H a) → (∀ a, r' a → So H2 a) → SlotOk K (hid H2 (uni (own ext reg) r')) H2 (some (.ref x)) r' (.ob false c ns o) → Q .non H2
      | .exc z _ => ∀ H2, Xt H H2 → E (.ref (cl z)) none H2
      | _ => False) : spM K cl c ns n F (.ref x :: us) (upd (upd H dx (.own x)) x (.ins (Tabl.C c) dx [])) Q E := by
  have nx2 : upd H dx (.own x) x = none := by rw [upd_ne (Ne.symm ne)]; exact nx
  have X1 : Xt H (upd H dx (.own x)) := Xt.new nd
  have X2 : Xt (upd H dx (.own x)) (upd (upd H dx (.own x)) x (.ins (Tabl.C c) dx [])) := Xt.new nx2
  have X : Xt H (upd (upd H dx (.own x)) x (.ins (Tabl.C c) dx [])) := X1.trans X2
  have nox : ¬ own ext reg x := r1.fresh nx
  refine ⟨own ext reg, fun a => a = x, x, [], us, ds, rfl, hl, X.t r1.tb, fun a z => (r1.ex X).so z, fun a z => ?_, fun a z y => nox (z ▸ y), ?_, ?_, ?_⟩
  · rw [z]; exact ⟨_, upd_same, rfl⟩
  · exact ⟨x, dx, [], [], rfl, (fun z => nomatch z), rfl, upd_same, rfl, .nil⟩
  · refine hu.mono (Ex.le ⟨fun a o h t => ?_⟩)
    obtain ⟨z, h⟩ := hid_some h
    have nax : a ≠ x := fun q => by rw [q, nx] at h; cases h
    rw [hid_at fun q => q.elim z nax]
    exact X.k a o h t
  · have key : ∀ r' o' H2, MtS K c ns (own ext reg) (fun a => a = x) x (upd (upd H dx (.own x)) x (.ins (Tabl.C c) dx [])) r' o' H2 → Xt H H2 ∧ ∀ a, r' a → Nn H a := fun r' o' H2 M => by
      refine ⟨⟨⟨fun a o h t => ?_⟩, fun _ => M.t⟩, fun a z => ?_⟩
      · have nax : a ≠ x := fun q => by rw [q, nx] at h; cases h
        exact M.k.k a o (by rw [hid_at (Z := fun a => a = x) nax]; exact X.k a o h t) t
      · rcases M.r1 a z with q | q
        · rw [q]; exact .of nx
        · exact X.toEx.nn q
    generalize F [] ds = z at w ⊢
    cases z with
    | ok d o' =>
      cases d with
      | none =>
        intro v r' H2 M hv
        obtain ⟨a1, a2⟩ := key r' o' H2 M
        cases hv
        exact w r' H2 a1 a2 M.r2 M.s
      | _ => exact w.elim
    | exc z o' =>
      intro r' H2 M
      exact w H2 (key r' o' H2 M).1
    | stuck => exact w.elim
def sMake (i : Nat) (c : Str) (ns : List Str) (F : List FV → List PD → RO) (fa : En → R (List PD)) : En → R Fl := fun en => (fa en).bind fun ds => match F [] ds with
  | .ok .none o => if i < en.length then .ok (.nx (en.set i (.ob false c ns o))) else .stuck
  | .exc x _ => .exc x
  | _ => .stuck
theorem es_make {i n : Nat} {c : Str} {ns : List Str} {F : List FV → List PD → RO} {tA : TA} {fa : En → R (List PD)} (hn : ∀ en ds, fa en = .ok ds → ds.length = n) (ha : EdA C tA fa) : Es C (tAsg (tMake (Tabl.C c) (spM C.K C.cl c ns n F) [] C.E tA) (gName i)) (sMake i c ns F fa) := fun H0 ext reg en σ H rs D w => ha H0 ext reg en σ H rs _ (by
  unfold sMake at w
  cases ef : fa en with
  | exc c => rw [ef] at w; exact WS.exc w rs.le rs.tb
  | stuck => rw [ef] at w; exact w.elim
  | ok ds =>
    rw [ef] at w
    simp only [R.bind_ok] at w
    intro us H1 e1 hu x dx nx nd ne
    have r1 := rs.ex e1
    rw [List.append_nil]
    refine mk_sp r1 (by rw [hu.length]; exact hn en ds ef) hu nx nd ne ?_
    generalize F [] ds = z at w ⊢
    cases z with
    | ok d o =>
      cases d with
      | none =>
        dsimp only at w
        split at w
        · rename_i hi
          intro r' H2 X k2 k3 s
          refine ⟨rfl, w _ _ _ (r1.newR (r' := r') hi rfl (fun a o h t => X.k a o h t) (X.t r1.tb) k2 k3 ?_)⟩
          obtain ⟨p, dx', vs, L, g1, g2, g3, g4, g5, g6⟩ := s
          refine ⟨p, dx', vs, L, g1, g2, g3, g4, g5, g6.mono ((Ex.refl H2).hidLess fun a z => ?_).le fun _ _ _ z _ => z⟩
          exact (upR_own z).imp (fun z => z) fun z => z
        · exact w.elim
      | _ => exact w.elim
    | exc z o => exact WS.exc w r1.le r1.tb
    | stuck => exact w.elim)
/-- C(..) that is refused -/
def dMakeX (F : List FV → List PD → RO) (fa : En → R (List PD)) : En → R PD := fun en => (fa en).bind fun ds => match F [] ds with
  | .exc x _ => .exc x
  | _ => .stuck
theorem ed_makeX {n : Nat} {c : Str} {ns : List Str} {F : List FV → List PD → RO} {tA : TA} {fa : En → R (List PD)} (hn : ∀ en ds, fa en = .ok ds → ds.length = n) (ha : EdA C tA fa) : EdS C (tMake (Tabl.C c) (spM C.K C.cl c ns n F) [] C.E tA) (dMakeX F fa) := fun H0 ext reg en σ H rs Q w => ha H0 ext reg en σ H rs _ (by
  unfold dMakeX at w
  cases ef : fa en with
  | exc c => rw [ef] at w; exact w
  | stuck => rw [ef] at w; exact w.elim
  | ok ds =>
    rw [ef] at w
    simp only [R.bind_ok] at w
    intro us H1 e1 hu x dx nx nd ne
    rw [List.append_nil]
    refine mk_sp (rs.ex e1) (by rw [hu.length]; exact hn en ds ef) hu nx nd ne ?_
    generalize F [] ds = z at w ⊢
    cases z with
    | ok d o => exact w.elim
    | exc z o => exact fun H2 e2 => w H2 (e1.trans e2)
    | stuck => exact w.elim)
end
end Dn

/-! comprehensions whose elements change objects. -/
namespace Dn
open PySem L2
variable [Tabl]
def delH (H : Hp) (D : Addr) : Hp := fun a => if a = D then none else H a
theorem delH_ne {H : Hp} {D a : Addr} (h : a ≠ D) : delH H D a = H a := if_neg h
theorem delH_no {H : Hp} {D : Addr} : delH H D D = none := if_pos rfl
theorem delH_some {H : Hp} {D a : Addr} {o : HO} (h : delH H D a = some o) : a ≠ D ∧ H a = some o := by
  unfold delH at h
  split at h
  · cases h
  · rename_i hn
    exact ⟨hn, h⟩
theorem delH_ex {H : Hp} {D : Addr} : Ex (delH H D) H := Ex.of fun a o h => (delH_some h).2
theorem delH_upd {H : Hp} {D : Addr} {o : HO} : delH (upd H D o) D = delH H D := by
  funext a
  by_cases ha : a = D
  · rw [ha, delH_no, delH_no]
  · rw [delH_ne ha, delH_ne ha, upd_ne ha]
theorem upd_delH {H : Hp} {D : Addr} {o : HO} (h : H D = some o) : upd (delH H D) D o = H := by
  funext a
  by_cases ha : a = D
  · rw [ha, upd_same, h]
  · rw [upd_ne ha, delH_ne ha]
theorem delH_tabs {T : List (Addr × Str)} {H : Hp} {D : Addr} {xs : List V} (h : H D = some (.lst xs)) (t : LamX.Tabs T H) : LamX.Tabs T (delH H D) := tabs_wr t h rfl fun a ha => delH_ne ha
abbrev exD (ext : AS) (D : Addr) : AS := fun a => ext a ∨ a = D
section
variable {K : PySem.W.Frag} {H0 H G : Hp} {ext : AS} {reg : Nat → AS} {en : En} {σ : L2.St} {D : Addr} {xs : List V}
theorem hid_delH : hid H (own (exD ext D) reg) = hid (delH H D) (own ext reg) := by
  funext a
  by_cases ha : a = D
  · rw [hid_no (.inl (.inr ha))]
    by_cases hz : own ext reg a
    · rw [hid_no hz]
    · rw [hid_at hz, ha, delH_no]
  · by_cases hz : own ext reg a
    · rw [hid_no hz, hid_no (by
        rcases hz with hz | hz
        · exact .inl (.inl hz)
        · exact .inr hz)]
    · rw [hid_at hz, delH_ne ha, hid_at fun z => by
        rcases z with (z | z) | z
        · exact hz (.inl z)
        · exact ha z
        · exact hz (.inr z)]
/-- the new list is a stranger's -/
theorem RS.inD (r : RS K H0 ext reg en σ (delH H D)) (h : H D = some (.lst xs)) (t : LamX.Tabs Tabl.T H) : RS K (hid H fun a => ∃ i, reg i a) (exD ext D) reg en σ H := by
  have nD : ∀ i, ¬ reg i D := fun i z => by
    obtain ⟨o, q, _⟩ := (r.rg i D z).2
    rw [delH_no] at q
    cases q
  refine ⟨hid_ex, t, ?_, fun i a z => ⟨.of (hid_no ⟨i, z⟩), delH_ex.so (r.rg i a z).2⟩, r.dj, r.ro, r.len, fun i sv e => ?_⟩
  · rintro a (z | z)
    · obtain ⟨o, q, q2⟩ := delH_ex.so (r.le.so (r.exd a z))
      exact ⟨o, by rw [hid_at fun ⟨i, y⟩ => r.noext y z]; exact q, q2⟩
    · exact ⟨.lst xs, by rw [z, hid_at fun ⟨i, y⟩ => nD i y]; exact h, rfl⟩
  · obtain ⟨v, h1, h2⟩ := r.sl i sv e
    exact ⟨v, h1, by rw [hid_delH]; exact h2.mono (Ex.refl _) fun p o _ q n => delH_ex.k p o q n⟩
/-- .. and out again -/
theorem RS.outD (r : RS K G (exD ext D) reg en σ H) (h : H D = some (.lst xs)) (hx : ∀ a, ext a → So H0 a) (g : Ex H0 G) (nD : Nn H0 D) : RS K H0 ext reg en σ (delH H D) := by
  have nr : ∀ i a, reg i a → a ≠ D := fun i a z e => r.noext z (.inr e)
  refine ⟨⟨fun a o q n => ?_⟩, delH_tabs h r.tb, hx, fun i a z => ⟨g.nn (r.rg i a z).1, ?_⟩, r.dj, r.ro, r.len, fun i sv e => ?_⟩
  · have naD : a ≠ D := fun z => So.nn ⟨o, z ▸ q, n⟩ nD
    rw [delH_ne naD]
    exact r.le.k a o (g.k a o q n) n
  · obtain ⟨o, q, q2⟩ := (r.rg i a z).2
    exact ⟨o, by rw [delH_ne (nr i a z)]; exact q, q2⟩
  · obtain ⟨v, h1, h2⟩ := r.sl i sv e
    exact ⟨v, h1, by rw [← hid_delH]; exact h2.mono (Ex.refl _) fun p o z q n => by rw [delH_ne (nr i p z)]; exact q⟩
end
def backE (en e : En) : List Nat → En
  | [] => e
  | v :: vs => match en[v]? with
    | some sv => (backE en e vs).set v sv
    | none => backE en e vs
theorem backE_len (en e : En) : ∀ vs, (backE en e vs).length = e.length
  | [] => rfl
  | v :: vs => by
    unfold backE
    split
    · rw [List.length_set, backE_len en e vs]
    · exact backE_len en e vs
theorem backE_get (en e : En) (hl : e.length = en.length) : ∀ (vs : List Nat) (j : Nat), (backE en e vs)[j]? = if j ∈ vs then en[j]? else e[j]?
  | [], j => by simp [backE]
  | v :: vs, j => by
    have ih := backE_get en e hl vs j
    unfold backE
    by_cases hv : v = j
    · subst hv
      rw [if_pos List.mem_cons_self]
      cases q : en[v]? with
      | some sv =>
        dsimp only
        rw [List.getElem?_set_self (by rw [backE_len, hl]; exact lt_of_some q)]
      | none =>
        dsimp only
        rw [List.getElem?_eq_none_iff] at q ⊢
        rw [backE_len, hl]
        exact q
    · have hm : (j ∈ v :: vs) ↔ j ∈ vs := ⟨fun z => (List.mem_cons.mp z).resolve_left fun e => hv e.symm, List.mem_cons_of_mem _⟩
      have e2 : (if j ∈ v :: vs then en[j]? else e[j]?) = if j ∈ vs then en[j]? else e[j]? := by
        by_cases hj : j ∈ vs
        · rw [if_pos hj, if_pos (hm.mpr hj)]
        · rw [if_neg hj, if_neg fun z => hj (hm.mp z)]
      rw [e2, ← ih]
      cases en[v]? with
      | some sv =>
        dsimp only
        rw [List.getElem?_set_ne hv]
      | none => rfl
theorem wipeE_len (en : En) : ∀ ws : List Nat, (wipeE en ws).length = en.length
  | [] => rfl
  | a :: b => by unfold wipeE; rw [List.length_set, wipeE_len en b]
def lcLE (tg : PD → En → R En) (fe : En → R (PD × En)) (vs : List Nat) : List PD → En → R (List PD × En)
  | [], en => .ok ([], en)
  | x :: r, en => (tg x en).bind fun e => (fe e).bind fun p => if free p.2 vs = true then (lcLE tg fe vs r (wipeE p.2 vs)).bind fun q => .ok (p.1 :: q.1, q.2) else .stuck
def dLcE (fi : En → R (List PD × En)) (tg : PD → En → R En) (fe : En → R (PD × En)) (vs : List Nat) : En → R (List PD × En) := fun en => (fi en).bind fun p =>
  if free p.2 vs = true then ((lcLE tg fe vs p.1 (wipeE p.2 vs)).noexc).bind fun q => (chk q.1).bind fun l => .ok (l, backE p.2 q.2 vs) else .stuck
/-! ### what is walked -/
def WrIE (C : Cn) (H0 : Hp) (ext : AS) (reg : Nat → AS) (σ : L2.St) (H : Hp) (Rr : It → Hp → Prop) : R (List PD × En) → Prop
  | .ok (ds, en') => ∀ J reg' H2, Ex (hid H (own ext reg)) (hid H2 (own ext reg')) → RS C.K H0 ext reg' en' σ H2 → Wk C.K J ds (hid H2 (own ext reg')) → Rr J H2
  | .exc c => ∀ H2, Ex H0 H2 → LamX.Tabs Tabl.T H2 → C.E (.ref (C.cl c)) none H2
  | .stuck => False
def EdIE (C : Cn) (wi : TI) (f : En → R (List PD × En)) : Prop := ∀ (H0 : Hp) (ext : AS) (reg : Nat → AS) (en : En) (σ : L2.St) (H : Hp), RS C.K H0 ext reg en σ H → ∀ Rr, WrIE C H0 ext reg σ H Rr (f en) → wi σ H Rr
theorem eie_S {C : Cn} {wi : TI} {fi : En → R (List PD)} (h : EdI C wi fi) : EdIE C wi (eaS fi) := fun H0 ext reg en σ H rs Rr w => h H0 ext reg en σ H rs Rr (by
  unfold eaS at w
  generalize fi en = x at w ⊢
  cases x with
  | ok ds => exact fun J H2 x2 wk => w J reg H2 x2.toEx.hid (rs.ex x2) wk
  | exc c => exact fun H2 x2 => w H2 (rs.le.trans x2.toEx) (x2.t rs.tb)
  | stuck => exact w)
def eIt (g : PD → R (List PD)) (fe : En → R (PD × En)) : En → R (List PD × En) := fun en => (fe en).bind fun p => (g p.1).bind fun ds => .ok (ds, p.2)
theorem eie_list {C : Cn} {tl : TE} {fe : En → R (PD × En)} (h : EdE C tl fe) : EdIE C (iList C.K tl) (eIt asL fe) := fun H0 ext reg en σ H rs Rr w => h H0 ext reg en σ H rs _ (by
  unfold eIt at w
  generalize fe en = x at w ⊢
  cases x with
  | exc c => exact w
  | stuck => exact w
  | ok z =>
    obtain ⟨d, en1⟩ := z
    intro v reg1 H1 e1 r1 hv
    simp only [R.bind_ok] at w
    cases d with
    | list ds =>
      cases hv with
      | lst hp hr =>
        rename_i a xs
        refine ⟨a, rfl, ⟨xs, hid_ex.sql (SqL.of hp)⟩, w _ reg1 H1 e1 r1 fun Z H' e' hz i => ⟨fun d hd => ?_, fun hl => ⟨xs, SqL.of (hid_ex.l (e'.l hp)), by rw [hr.length]; exact Nat.le_of_eq hl⟩⟩⟩
        obtain ⟨v, hv, hr2⟩ := hr.get hd
        refine ⟨⟨xs, v, SqL.of (hid_ex.l (e'.l hp)), hv⟩, fun x H'' hy => ?_⟩
        obtain ⟨rfl, hy⟩ := hy
        have e : x = v := Option.some.inj ((hy xs (SqL.of (hid_ex.l (e'.l hp)))).symm.trans hv)
        rw [e]
        exact ⟨Xt.refl _, hr2.mono e'.le⟩
    | _ => exact w.elim)
def WrFE (C : Cn) (H0 : Hp) (ext : AS) (reg : Nat → AS) (σ : L2.St) (H : Hp) (Q : VK) : R (List PD × En) → Prop
  | .ok (ds, en') => ∀ p xs reg' H2, Ex (hid H (own ext reg)) (hid H2 (own ext reg')) → RS C.K H0 ext reg' en' σ H2 → H2 p = none → RpA C.K (hid H2 (own ext reg')) xs ds → Q (.ref p) (upd H2 p (.lst xs))
  | .exc c => ∀ H2, Ex H0 H2 → LamX.Tabs Tabl.T H2 → C.E (.ref (C.cl c)) none H2
  | .stuck => False
def EdFE (C : Cn) (te : TE) (f : En → R (List PD × En)) : Prop := ∀ (H0 : Hp) (ext : AS) (reg : Nat → AS) (en : En) (σ : L2.St) (H : Hp), RS C.K H0 ext reg en σ H → ∀ Q : VK, WrFE C H0 ext reg σ H Q (f en) → te σ H Q
def eF (f : En → R (List PD × En)) : En → R (PD × En) := fun en => (f en).bind fun p => .ok (.list p.1, p.2)
section
variable {C : Cn} {te : TE}
theorem EdFE.e {f : En → R (List PD × En)} (h : EdFE C te f) : EdE C te (eF f) := fun H0 ext reg en σ H rs Q w => h H0 ext reg en σ H rs Q (by
  unfold eF at w
  generalize f en = x at w ⊢
  cases x with
  | ok p =>
    intro q xs reg' H2 e2 r2 hq hx
    have X := Xt.new (o := .lst xs) hq
    exact w _ reg' _ (e2.trans X.toEx.hid) (r2.ex X) (Rp.newL (fun a z => r2.there z) hq hx)
  | exc c => exact w
  | stuck => exact w)
def sAsgFE (i : Nat) (f : En → R (List PD × En)) : En → R Fl := fun en => (f en).bind fun p => if i < p.2.length then .ok (.nx (p.2.set i (.ol p.1))) else .stuck
theorem es_asgFE {i : Nat} {f : En → R (List PD × En)} (h : EdFE C te f) : Es C (tAsg te (gName i)) (sAsgFE i f) := fun H0 ext reg en σ H rs D w => h H0 ext reg en σ H rs _ (by
  unfold sAsgFE at w
  generalize f en = x at w ⊢
  cases x with
  | ok p =>
    intro q xs reg' H2 e2 r2 hq hx
    simp only [R.bind_ok] at w
    split at w
    · rename_i hi
      exact w _ _ _ (r2.new hi rfl hq ⟨q, xs, rfl, rfl, upd_same, hx⟩)
    · exact w.elim
  | exc c => exact w
  | stuck => exact w)
theorem efe_lc {wi : TI} {g : TG} {vs ts : List Nat} {fi : En → R (List PD × En)} {tg : PD → En → R En} {fe : En → R (PD × En)}
    (hi : EdIE C wi fi) (hg : EdK C.n ts g tg) (he : EdE C.n te fe) (hts : ∀ i ∈ ts, i ∈ vs) : EdFE C (tLc wi g tYes te vs) (dLcE fi tg fe vs) := fun H0 ext reg0 en0 σ H rs Q w => by
  refine hi H0 ext reg0 en0 σ H rs _ ?_
  unfold dLcE at w
  cases e : fi en0 with
  | exc c => rw [e] at w; exact w
  | stuck => rw [e] at w; exact w.elim
  | ok z0 =>
    obtain ⟨ds, en⟩ := z0
    rw [e] at w
    simp only [R.bind_ok] at w
    split at w
    case isFalse => exact w.elim
    rename_i hfree
    cases el : lcLE tg fe vs ds (wipeE en vs) with
    | exc c => rw [el] at w; exact w.elim
    | stuck => rw [el] at w; exact w.elim
    | ok z =>
      obtain ⟨all, enF⟩ := z
      rw [el] at w
      simp only [R.noexc_ok, R.bind_ok] at w
      unfold chk at w
      split at w
      case isFalse => exact w.elim
      rename_i hlen
      simp only [R.bind_ok] at w
      intro J reg H1 e01 r1 wk Dl hD
      have nH0 : Nn H0 Dl := r1.le.nn (.of hD)
      let I : Nat → Nat → Hp → Prop := fun i m H' => m = ds.length - i ∧ i ≤ ds.length ∧ LamX.Tabs Tabl.T H' ∧ ∃ reg' enB xs acc rest, H' Dl = some (.lst xs) ∧ RS C.K H0 ext reg' enB (wipe σ vs) (delH H' Dl) ∧ (∀ j ∈ vs, ∀ sv, enB[j]? = some sv → sv = .no) ∧ enB.length = en.length ∧
        Ex (hid H1 (own ext reg)) (hid (delH H' Dl) (own ext reg')) ∧ RpA C.K (hid (delH H' Dl) (own ext reg')) xs acc ∧ lcLE tg fe vs (ds.drop i) enB = .ok (rest, enF) ∧ acc ++ rest = all
      have hdel : delH (upd H1 Dl (.lst [])) Dl = H1 := by
        rw [delH_upd]
        funext a
        by_cases ha : a = Dl
        · rw [ha, delH_no, hD]
        · rw [delH_ne ha]
      have wno : ∀ (e : En), ∀ j ∈ vs, ∀ sv, (wipeE e vs)[j]? = some sv → sv = .no := fun e j hj sv q => by
        rw [wipeE_get, if_pos hj] at q
        cases z : e[j]? with
        | none => rw [z] at q; cases q
        | some s => rw [z] at q; cases q; rfl
      refine ⟨I, ⟨ds.length, by omega, Nat.zero_le _, (Xt.new hD).t r1.tb, reg, wipeE en vs, [], [], all, upd_same, by rw [hdel]; exact r1.wipes vs hfree, wno en, wipeE_len en vs, by rw [hdel]; exact Ex.refl _, .nil, by rw [List.drop_zero]; exact el, rfl⟩, ?_⟩
      rintro i m H' ⟨rfl, hi', hTb, reg', enB, xs, acc, rest, hDl, rD, hno, hlB, eH, hacc, hrest, hall⟩
      have rB := rD.inD hDl hTb
      have wki := wk (own (exD ext Dl) reg') H' (by rw [hid_delH]; exact eH) (fun a z => rB.there z) i
      by_cases hlt : i < ds.length
      · refine .inr ?_
        have hd : ds[i]? = some ds[i] := List.getElem?_eq_getElem hlt
        obtain ⟨go, yl⟩ := wki.1 _ hd
        refine ⟨go, fun H'' => I (i + 1) (ds.length - (i + 1)) H'', fun H'' q => ⟨_, by omega, q⟩, fun x H2 hy => ?_⟩
        obtain ⟨x2, hx⟩ := yl x H2 hy
        rw [List.drop_eq_getElem_cons hlt] at hrest
        unfold lcLE at hrest
        have rB2 := rB.ex x2
        refine hg _ _ reg' _ _ H2 rB2 x ds[i] hx _ ?_
        cases etg : tg ds[i] enB with
        | exc c => rw [etg] at hrest; cases hrest
        | stuck => rw [etg] at hrest; cases hrest
        | ok en2 =>
          rw [etg] at hrest
          simp only [R.bind_ok] at hrest
          intro reg2 σ2 kp rB3
          have hw : wipe σ2 vs = wipe σ vs := by
            apply List.ext_getElem?
            intro j
            rw [wipe_get, wipe_get]
            by_cases hj : j ∈ vs
            · rw [if_pos hj, if_pos hj]
              by_cases hl : j < σ.length
              · have : j < σ2.length := by rw [kp.s1, wipe_length]; exact hl
                rw [List.getElem?_eq_getElem hl, List.getElem?_eq_getElem this]
                rfl
              · rw [List.getElem?_eq_none (l := σ) (by omega), List.getElem?_eq_none (l := σ2) (by rw [kp.s1, wipe_length]; omega)]
            · rw [if_neg hj, if_neg hj, kp.s2 j fun z => hj (hts j z), wipe_get, if_neg hj]
          -- what is owned is the same
          have ownS : own (exD ext Dl) reg2 = own (exD ext Dl) reg' := by
            funext a
            apply propext
            refine ⟨kp.own _ a, ?_⟩
            rintro (h | ⟨j, h⟩)
            · exact .inl h
            · refine .inr ⟨j, kp.r2 j a h fun hj => ?_⟩
              obtain ⟨sv, h1, h2⟩ := rB.ro j a h
              rw [hno j (hts j hj) sv h1] at h2
              cases h2
          refine ⟨hw, show te σ2 H2 _ from ?_⟩
          refine he _ _ reg2 en2 σ2 H2 rB3 _ ?_
          cases efe : fe en2 with
          | exc c => rw [efe] at hrest; cases hrest
          | stuck => rw [efe] at hrest; cases hrest
          | ok z =>
            obtain ⟨y, en3⟩ := z
            rw [efe] at hrest
            simp only [R.bind_ok] at hrest
            split at hrest
            case isFalse => cases hrest
            rename_i hfr3
            cases er : lcLE tg fe vs (ds.drop (i + 1)) (wipeE en3 vs) with
            | exc c => rw [er] at hrest; cases hrest
            | stuck => rw [er] at hrest; cases hrest
            | ok zz =>
              obtain ⟨ys, enF2⟩ := zz
              rw [er] at hrest
              simp only [R.bind_ok] at hrest
              have hp := R.ok.inj hrest
              have hF : enF2 = enF := congrArg Prod.snd hp
              have hR : y :: ys = rest := congrArg Prod.fst hp
              clear hp hrest
              subst hF
              subst hR
              intro v reg4 H4 e4 r4 hv
              have dl4 : H4 Dl = some (.lst xs) := r4.le.k Dl _ (by
                rw [hid_at fun ⟨j, y⟩ => rB.noext y (.inr rfl)]
                exact hDl) rfl
              have g0 : Ex H0 (hid H' fun a => ∃ i, reg' i a) := ⟨fun a o q n => by
                rw [hid_at fun ⟨j, y⟩ => So.nn ⟨o, q, n⟩ (rD.rg j a y).1]
                exact delH_ex.k a o (rD.le.k a o q n) n⟩
              have rO := (r4.outD dl4 rs.exd g0 nH0).wipes vs hfr3
              have e24 : Ex (hid (delH H' Dl) (own ext reg')) (hid (delH H4 Dl) (own ext reg4)) := by
                rw [← hid_delH, ← hid_delH]
                refine Ex.trans ?_ (e4 : Ex _ _)
                rw [ownS]
                exact x2.toEx.hid
              have hxs : xs.length < sizeLine := sz_lt (by
                rw [hacc.length]
                have : acc.length ≤ all.length := by rw [← hall, List.length_append]; omega
                omega)
              have hln : (wipeE en3 vs).length = en.length := by
                have := rO.len
                rw [wipe_length] at this
                rw [← this]
                have h2 := rB3.len
                have h3 := kp.s1
                have h4 := rD.len
                rw [h3, h4, hlB]
              refine ⟨xs, dl4, hxs, rfl, hlt, tabs_wr r4.tb dl4 rfl fun a ha => upd_ne ha, reg4, wipeE en3 vs, xs ++ [v], acc ++ [y], ys, upd_same, ?_, wno en3, hln, ?_, ?_, er, by rw [← hall, List.append_assoc]; rfl⟩
              · rw [delH_upd, ← hw]; exact rO
              · rw [delH_upd]; exact eH.trans e24
              · rw [delH_upd]
                refine RpA.app (hacc.mono e24.le) (.cons ?_ .nil)
                rw [← hid_delH]
                exact hv
      · refine .inl ⟨wki.2 (by omega), ?_⟩
        have ei : i = ds.length := by omega
        rw [ei, List.drop_length] at hrest
        unfold lcLE at hrest
        have hp := R.ok.inj hrest
        have hF : enB = enF := congrArg Prod.snd hp
        have hR : [] = rest := congrArg Prod.fst hp
        clear hp hrest
        subst hF
        subst hR
        rw [List.append_nil] at hall
        subst hall
        rw [← upd_delH hDl]
        refine w Dl xs reg' (delH H' Dl) (e01.trans eH) ?_ delH_no hacc
        -- the slots again
        have hlσ : σ.length = en.length := r1.len
        refine ⟨rD.le, rD.tb, rs.exd, rD.rg, rD.dj, fun j a q => ?_, by rw [backE_len, hlB]; exact hlσ, fun j sv q => ?_⟩
        · obtain ⟨sv, h1, h2⟩ := rD.ro j a q
          refine ⟨sv, ?_, h2⟩
          rw [backE_get _ _ hlB]
          by_cases hj : j ∈ vs
          · rw [hno j hj sv h1] at h2
            cases h2
          · rw [if_neg hj]
            exact h1
        · rw [backE_get _ _ hlB] at q
          by_cases hj : j ∈ vs
          · rw [if_pos hj] at q
            obtain ⟨v, h1, h2⟩ := r1.sl j sv q
            refine ⟨v, h1, ?_⟩
            have hf : isOwn sv = false := by
              unfold free at hfree
              have := List.all_eq_true.mp hfree j hj
              rw [q] at this
              simpa using this
            have h3 : SlotOk C.K (hid H1 (own ext reg)) H1 v (reg' j) sv := by
              cases sv with
              | ol _ => cases hf
              | od _ => cases hf
              | ob _ _ _ _ => cases hf
              | no => exact h2
              | sh _ => exact h2
              | rl _ => exact h2
              | fz _ => exact h2
              | xr _ => exact h2
              | vw _ _ _ => exact h2
              | bd _ => cases hf
              | bz _ => exact h2
            exact h3.mono eH fun p o z _ _ => by
              obtain ⟨sv', g1, g2⟩ := rD.ro j p z
              rw [hno j hj sv' g1] at g2
              cases g2
          · rw [if_neg hj] at q
            obtain ⟨v, h1, h2⟩ := rD.sl j sv q
            rw [wipe_get, if_neg hj] at h1
            exact ⟨v, h1, h2⟩
end
end Dn

/-! a def that tells an object and data. -/
namespace Dn
open PySem L2
variable [Tabl]
def WrK (C : Cn) (c : Str) (ns : List Str) (ext : AS) (H : Hp) (Q : VK) : RO → Prop
  | .ok d o => ∀ t p u r' H2, Xt H H2 → (∀ a, r' a → Nn H a) → (∀ a, r' a → So H2 a) → H2 t = some (.tup [.ref p, u]) → SlotOk C.K (hid H2 (uni ext r')) H2 (some (.ref p)) r' (.ob false c ns o) → Rp C.K (hid H2 (uni ext r')) u d → Q (.ref t) H2
  | .exc x _ => ∀ H2, Xt H H2 → C.E (.ref (C.cl x)) none H2
  | .stuck => False
def spK (K : PySem.W.Frag) (cl : Str → Addr) (c : Str) (ns : List Str) (n : Nat) (F : List PD → RO) : Sp := fun vs H Q E => ∃ (ext : AS) (ds : List PD), vs.length = n ∧ LamX.Tabs Tabl.T H ∧ (∀ a, ext a → So H a) ∧ RpA K (hid H ext) vs ds ∧ WrK ⟨K, E, cl⟩ c ns ext H Q (F ds)
def atOb (c : Str) (ns : List Str) (i : Nat) (e : En) (k : List FV → RO) : RO := match e[i]? with
  | some (.ob _ c' ns' o') => if c' = c ∧ ns' = ns then k o' else .stuck
  | _ => .stuck
def runK (N : Nat) (c : Str) (ns : List Str) (f : En → R Fl) (ds : List PD) : RO := match f (ds.map SV.sh ++ List.replicate (N - ds.length) SV.no) with
  | .ok (.pr i d e) => atOb c ns i e (.ok d)
  | .exc x => .exc x []
  | _ => .stuck
section
variable {P : Program} {w : World} {K : PySem.W.Frag} {mg : Str → Option Value} {base : Heap}
theorem def_okK {x qual : Str} {st : Stmt} {f : Addr} {fd : FuncData} {N ps : List Str} {k : Nat} {cl : Str → Addr} {c : Str} {ns : List Str} {body : En → R Fl} (F : Fun K x qual st f fd) (S : FnScope N ps (defScope st))
    (hb : ∀ (cdv : Value) (A : Around) (outer : List Env) (s : Shared) (H : Hp) (E : XK), Room k (A.deeper (PyProof.Rows.envOfC qual (defScope st) s.heap.objs.size f cdv)) →
      ∃ t, PSs (cxOf (L2N.CX P w) P w K mg base N qual (defScope st) f cdv A outer s H E) (defBody st) t ∧ Es ⟨K, E, cl⟩ t body) :
    FnOk P w K mg base (L2N.CX P w) (k + 1) f fd ps (spK K cl c ns ps.length (runK N.length c ns body)) := by
  refine okN F S (fun vs H Q E h => h.choose_spec.choose_spec.1) fun cdv A outer s H vs Q E hr h => ?_
  obtain ⟨t, ht, hs⟩ := hb cdv A outer s H E hr
  refine ⟨t, ht, ?_⟩
  obtain ⟨ext, ds, hl, htb, hx, hv, wr⟩ := h
  refine hs H ext (fun _ _ => False) _ _ H (RS.start htb hx hv) _ ?_
  unfold runK at wr
  generalize body (ds.map SV.sh ++ List.replicate (N.length - ds.length) SV.no) = r at wr ⊢
  cases r with
  | ok fl =>
    cases fl with
    | pr i d e =>
      dsimp only at wr
      intro t p u reg σ H2 r2 h1 h2 h3 h4
      unfold atOb at wr
      split at wr
      · rename_i m c' ns' o ee
        split at wr
        · rename_i hc
          obtain ⟨rfl, rfl⟩ := hc
          obtain ⟨q, dx, vs', L, g1, g2, g3, g4, g5, gl, g6⟩ := r2.atO ee
          have eq : q = p := by
            rw [h1] at g1
            cases g1
            rfl
          subst eq
          have sub : ∀ a, uni ext (reg i) a → own ext reg a := fun a z => z.imp (fun z => z) fun z => ⟨i, z⟩
          exact wr t q u (reg i) H2 ⟨r2.le, fun _ => r2.tb⟩ (fun a z => (r2.rg i a z).1) (fun a z => (r2.rg i a z).2) h2 ⟨q, dx, vs', L, rfl, (fun z => nomatch z), g3, g4, g5, g6.mono ((Ex.refl H2).hidLess sub).le fun _ _ _ z _ => z⟩ (h4.mono ((Ex.refl H2).hidLess sub).le)
        · exact wr.elim
      · exact wr.elim
    | _ => exact wr.elim
  | exc c => exact fun H2 e2 tb => wr H2 ⟨e2, fun _ => tb⟩
  | stuck => exact wr.elim
end
section
variable {C : Cn} {te : TE}
/-- return o, xs: the object and the list of two slots -/
def sRetP (i j : Nat) : En → R Fl := fun en => match en[i]?, en[j]? with
  | some (.ob _ _ _ _), some (.ol ds) => if i ≠ j then .ok (.pr i (.list ds) (sShare j en)) else .stuck
  | _, _ => .stuck
theorem es_retP {i j : Nat} : Es C (tRet (tTup (tCons (tVar i) (tCons (tVar j) tNil)))) (sRetP i j) := fun H0 ext reg en σ H rs D w => by
  unfold sRetP at w
  split at w
  · rename_i m c ns o ds ei ej
    split at w
    · rename_i hij
      obtain ⟨p, dx, vs, L, h1, h2, h3, h4, h5, hl, h6⟩ := rs.atO ei
      obtain ⟨q, xs, g1, g2, g3, g4⟩ := rs.at ej
      refine ⟨_, h1, _, g1, by show 2 ≤ sizeLine; decide, fun t ht => ?_⟩
      have r2 := rs.share ej
      have es : sShare j en = en.set j (.sh (.list ds)) := by unfold sShare; rw [ej]
      rw [es] at w
      have X : Xt H (upd H t (.tup [.ref p, .ref q])) := Xt.new ht
      have r3 := r2.ex X
      obtain ⟨v, k1, x, k2, k3⟩ := r3.sl j (.sh (.list ds)) (by rw [List.getElem?_set_self (lt_of_some ej)])
      have ev : x = .ref q := by
        rw [g1] at k1
        cases k1
        cases k2
        rfl
      subst ev
      exact w t p (.ref q) _ σ _ r3 h1 upd_same (fun z => by
        obtain ⟨u, hu⟩ := r2.there z
        rw [ht] at hu
        cases hu) k3
    · exact w.elim
  · exact w.elim
/-- f(..)[1] -/
def dK1 (F : List PD → RO) (fa : En → R (List PD)) : En → R PD := fun en => (fa en).bind fun ds => match F ds with
  | .ok d _ => .ok d
  | .exc x _ => .exc x
  | .stuck => .stuck
theorem ed_K1 {n : Nat} {c : Str} {ns : List Str} {F : List PD → RO} {ta : TA} {fa : En → R (List PD)} (hn : ∀ en ds, fa en = .ok ds → ds.length = n) (h : EdA C ta fa) : EdS C (tOp (rIxA C.K) (tCall (spK C.K C.cl c ns n F) [] C.E ta) (tC (.int 1))) (dK1 F fa) := fun H0 ext reg en σ H rs Q w => h H0 ext reg en σ H rs _ (by
  unfold dK1 at w
  cases e : fa en with
  | exc c => rw [e] at w; exact w
  | stuck => rw [e] at w; exact w.elim
  | ok ds =>
    rw [e] at w
    simp only [R.bind_ok] at w
    intro vs H1 x1 hv
    refine ⟨own ext reg, ds, by rw [List.append_nil, hv.length, hn en ds e], (rs.ex x1).tb, fun a z => (rs.ex x1).so z, by rw [List.append_nil]; exact hv, ?_⟩
    generalize F ds = z at w ⊢
    cases z with
    | ok d o =>
      intro t p u r' H2 x2 k2 k3 ht hs hu
      exact .inl (.inr (.inl ⟨t, [.ref p, u], 1, u, rfl, rfl, .inl (.inl ht), rfl, w u H2 (x1.trans x2) (hu.mono ((Ex.refl H2).hidLess fun a z => .inl z).le)⟩))
    | exc x o => exact fun H2 x2 => w H2 (x1.trans x2)
    | stuck => exact w)
/-- f(..)[0].m() -/
def dK0 (F : List PD → RO) (M : List FV → List PD → RO) (fa : En → R (List PD)) : En → R PD := fun en => (fa en).bind fun ds => match F ds with
  | .ok _ o => (match M o [] with
    | .ok d _ => .ok d
    | .exc x _ => .exc x
    | .stuck => .stuck)
  | .exc x _ => .exc x
  | .stuck => .stuck
theorem ed_K0 {n : Nat} {c m : Str} {ns : List Str} {F : List PD → RO} {M : List FV → List PD → RO} {ta : TA} {fa : En → R (List PD)} (hm : m ∉ ns) (hn : ∀ en ds, fa en = .ok ds → ds.length = n) (h : EdA C ta fa) : EdS C (tMeth (Tabl.C c) m (spM C.K C.cl c ns 0 M) [] C.E (tOp (rIxA C.K) (tCall (spK C.K C.cl c ns n F) [] C.E ta) (tC (.int 0))) tNil) (dK0 F M fa) := fun H0 ext reg en σ H rs Q w => h H0 ext reg en σ H rs _ (by
  unfold dK0 at w
  cases e : fa en with
  | exc c => rw [e] at w; exact w
  | stuck => rw [e] at w; exact w.elim
  | ok ds =>
    rw [e] at w
    simp only [R.bind_ok] at w
    intro vs H1 x1 hv
    have r1 := rs.ex x1
    refine ⟨own ext reg, ds, by rw [List.append_nil, hv.length, hn en ds e], r1.tb, fun a z => r1.so z, by rw [List.append_nil]; exact hv, ?_⟩
    generalize F ds = z at w ⊢
    cases z with
    | ok d0 o =>
      dsimp only at w
      intro t p u r' H2 x2 k2 k3 ht hs hu
      refine .inl (.inr (.inl ⟨t, [.ref p, u], 0, .ref p, rfl, rfl, .inl (.inl ht), rfl, ?_⟩))
      obtain ⟨q, dx, vs', L, g1, g2, g3, g4, g5, g6⟩ := _root_.id hs
      cases g1
      refine ⟨p, dx, vs', rfl, g4, lookup_no g5 hm, own ext reg, r', p, o, [], [], rfl, rfl, x2.t r1.tb, fun a z => (r1.ex x2).so z, k3, fun a z y => So.nn (r1.so y) (k2 a z), hs, .nil, ?_⟩
      have key : ∀ r'' o'' H3, MtS C.K c ns (own ext reg) r' p H2 r'' o'' H3 → Xt H H3 := fun r'' o'' H3 Mt => x1.trans ⟨⟨fun a o q nt => Mt.k.k a o (by rw [hid_at fun z => So.nn ⟨o, q, nt⟩ (k2 a z)]; exact x2.k a o q nt) nt⟩, fun _ => Mt.t⟩
      generalize M o [] = y at w ⊢
      cases y with
      | ok d o' =>
        intro v r'' H3 Mt hv3
        exact w v H3 (key _ _ _ Mt) (hv3.mono ((Ex.refl H3).hidLess fun a z => .inl z).le)
      | exc x o' => exact fun r'' H3 Mt => w H3 (key _ _ _ Mt)
      | stuck => exact w.elim
    | exc x o => exact fun H2 x2 => w H2 (x1.trans x2)
    | stuck => exact w.elim)
end
end Dn

/-! tuples of the module; calls that are lent what is owned; rows of the words of objects. -/
namespace Dn
open PySem L2
variable [Tabl]
/-! ### a tuple of the module -/
structure KT (K : PySem.W.Frag) (mg : Str → Option Value) (x : Str) (d : PD) : Prop where
  at_ : ∃ v u, mg x = some u ∧ RelV v u ∧ ∀ H, Rp K H v d
def tKT (K : PySem.W.Frag) (d : PD) : TE := fun _ H Q => ∀ v, (∀ H, Rp K H v d) → Q v H
theorem kpe_t {X : Cx} (K : PySem.W.Frag) {mg : Str → Option Value} {x : Str} {d : PD} {pos : Pos} (k : KT K mg x d) (h : X.mg = mg) (hg : Gl X x) (hd : (x == ("__debug__" : Str)) = false := by decide) : PE X (.Name x pos) (tKT K d) := by
  subst h
  obtain ⟨v, u, h1, h2, h3⟩ := k.at_
  exact ⟨fun pins s σ H Q I q => (pe_glob hg h1 h2 hd).run pins s σ H Q I (q v h3)⟩
theorem ed_kt {C : Cn} {d : PD} : EdS C (tKT C.K d) (dC d) := fun H0 ext reg en σ H rs Q w v hv => w v H (Xt.refl H) (hv _)
/-! ### lengths of arguments -/
theorem hne_nil : ∀ (en : En) (p : List PD × En), eaNil en = .ok p → p.1.length = 0 := fun en p h => by
  cases h
  rfl
theorem hne_cons {fe : En → R (PD × En)} {fr : En → R (List PD × En)} {n : Nat} (h : ∀ (en : En) (p : List PD × En), fr en = .ok p → p.1.length = n) : ∀ (en : En) (p : List PD × En), eaCons fe fr en = .ok p → p.1.length = n + 1 := fun en p q => by
  unfold eaCons at q
  cases e1 : fe en with
  | ok x =>
    rw [e1] at q
    simp only [R.bind_ok] at q
    cases e2 : fr x.2 with
    | ok r =>
      rw [e2] at q
      cases q
      simp [h _ r e2]
    | exc c => rw [e2] at q; cases q
    | stuck => rw [e2] at q; cases q
  | exc c => rw [e1] at q; cases q
  | stuck => rw [e1] at q; cases q
theorem hne_S {fa : En → R (List PD)} {n : Nat} (h : ∀ (en : En) (ds : List PD), fa en = .ok ds → ds.length = n) : ∀ (en : En) (p : List PD × En), eaS fa en = .ok p → p.1.length = n := fun en p q => by
  unfold eaS at q
  cases e1 : fa en with
  | ok x =>
    rw [e1] at q
    cases q
    exact h en x e1
  | exc c => rw [e1] at q; cases q
  | stuck => rw [e1] at q; cases q
/-! ### a call that is lent what slots own; what it tells is flat -/
def dCallF (F : List PD → R PD) (fa : En → R (List PD)) : En → R PD := fun en => (fa en).bind fun ds => (F ds).bind fun d => if flatD d = true then .ok d else .stuck
theorem Rp.flatAny {K : PySem.W.Frag} {H H' : Hp} {v : V} {d : PD} (h : Rp K H v d) (f : flatD d = true) : Rp K H' v d := by
  cases h with
  | non => exact .non
  | bl b => exact .bl b
  | int b => exact .int b
  | str b => exact .str b
  | lst _ _ => cases f
  | tup _ _ => cases f
  | dct _ _ => cases f
theorem RpLA.rpa {K : PySem.W.Frag} {Hs H : Hp} (e : LeR K Hs H) (f : ∀ {v : V} {d : PD}, RpL K Hs H v d → Rp K H v d) : ∀ {vs : List V} {ds : List PD}, RpLA K Hs H vs ds → RpA K H vs ds
  | _, _, .nil => .nil
  | _, _, .cons h r => .cons (f h) (RpLA.rpa e f r)
theorem ed_callF {C : Cn} {n : Nat} {F : List PD → R PD} {ta : TA} {fa : En → R (List PD)} (hn : ∀ en ds, fa en = .ok ds → ds.length = n) (h : EdB C ta fa) : EdS C (tCall (spF C.K C.cl n F) [] C.E ta) (dCallF F fa) := fun H0 ext reg en σ H rs Q w => by
  refine h H0 ext reg en σ H rs _ ?_
  unfold dCallF at w
  cases e : fa en with
  | ok ds =>
    rw [e] at w
    simp only [R.bind_ok] at w
    intro vs H2 e2 h2
    have r2 := rs.ex e2
    have hl : vs.length = ds.length := by
      have : ∀ {vs : List V} {ds : List PD}, RpLA C.K (hid H2 (own ext reg)) (hid H2 ext) vs ds → vs.length = ds.length := fun {vs ds} q => by
        induction q with
        | nil => rfl
        | cons _ _ ih => simp [ih]
      exact this h2
    refine ⟨ext, ds, by rw [List.append_nil, hl, hn en ds e], r2.tb, fun a z => r2.so (.inl z), ?_, ?_⟩
    · rw [List.append_nil]
      exact h2.rpa ((Ex.refl H2).hidLess fun a z => .inl z).le fun q => q.rp (hid_less fun a z => .inl z)
    · generalize F ds = z at w ⊢
      cases z with
      | ok d =>
        simp only [R.bind_ok] at w
        intro v H3 e3 hv
        split at w
        · rename_i hf
          exact w v H3 (e2.trans e3) (hv.flatAny hf)
        · exact w.elim
      | exc c => exact fun H3 e3 => w H3 (e2.trans e3)
      | stuck => exact w
  | exc c => rw [e] at w; exact w
  | stuck => rw [e] at w; exact w.elim
/-! ### rows -/
section
variable {i k : Nat} {c : Str} {ns : List Str} {en : En} {fa : En → R PD} {fe fg : En → R (PD × En)} {f g : En → R Fl} {gt gu : En → R (Bool × En)} {ft : En → R Bool} {fl : En → R (List PD × En)} {fr : En → R (List PD)}
@[simp] theorem isOwn_ob (m : Bool) (c : Str) (ns : List Str) (fs : List FV) : isOwn (.ob m c ns fs) = true := nrf rfl
@[simp] theorem dFld_ap : dFld i c ns k en = (match en[i]? with
  | some (.ob _ c' ns' fs) => if c' = c ∧ ns' = ns then match fs[k]? with
      | some (.sh d) => .ok d
      | _ => .stuck
    else .stuck
  | _ => .stuck) := nrf rfl
@[simp] theorem dFldL_ap : dFldL i c ns k en = (match en[i]? with
  | some (.ob _ c' ns' fs) => if c' = c ∧ ns' = ns then match fs[k]? with
      | some (.sh d) => .ok d
      | some (.ol ds) => .ok (.list ds)
      | _ => .stuck
    else .stuck
  | _ => .stuck) := nrf rfl
@[simp] theorem setO_ap (fs : List FV) (k : Nat) (x : FV) : setO fs k x = if k < fs.length then fs.set k x else fs ++ [x] := nrf rfl
@[simp] theorem putO_ap {x : FV} : putO i c ns k x en = (match en[i]? with
  | some (.ob m c' ns' fs) => if c' = c ∧ ns' = ns ∧ k ≤ fs.length ∧ fs.length ≤ 100 then .ok (en.set i (.ob m c ns (setO fs k x))) else .stuck
  | _ => .stuck) := nrf rfl
@[simp] theorem sFldE_ap : sFldE i c ns k fe en = (fe en).bind fun p => (putO i c ns k (.sh p.1) p.2).bind fun e => .ok (.nx e) := nrf rfl
@[simp] theorem sFldF_ap : sFldF i c ns k fr en = (fr en).bind fun ds => (putO i c ns k (.ol ds) en).bind fun e => .ok (.nx e) := nrf rfl
@[simp] theorem sFldApp_ap : sFldApp i c ns k fa en = (match en[i]? with
  | some (.ob m c' ns' fs) => if c' = c ∧ ns' = ns then match fs[k]? with
      | some (.ol ds) => (fa en).bind fun d => if ds.length + 1 ≤ szN then .ok (.nx (en.set i (.ob m c ns (fs.set k (.ol (ds ++ [d])))))) else .stuck
      | _ => .stuck
    else .stuck
  | _ => .stuck) := nrf rfl
@[simp] theorem e2_ap {h : PD → PD → R PD} : e2 h fe fg en = (fe en).bind fun p => (fg p.2).bind fun q => (h p.1 q.1).bind fun z => .ok (z, q.2) := nrf rfl
@[simp] theorem e1_ap {h : PD → R PD} : e1 h fe en = (fe en).bind fun p => (h p.1).bind fun z => .ok (z, p.2) := nrf rfl
@[simp] theorem eAndV_ap : eAndV fe fg en = (fe en).bind fun p => match p.1 with
  | .bool true => fg p.2
  | .bool false => .ok (.bool false, p.2)
  | _ => .stuck := nrf rfl
@[simp] theorem eOrV_ap : eOrV fe fg en = (fe en).bind fun p => match p.1 with
  | .bool true => .ok (.bool true, p.2)
  | .bool false => fg p.2
  | _ => .stuck := nrf rfl
@[simp] theorem eaS_ap : eaS fr en = (fr en).bind fun ds => .ok (ds, en) := nrf rfl
@[simp] theorem eaNil_ap : eaNil en = .ok ([], en) := nrf rfl
@[simp] theorem eaCons_ap : eaCons fe fl en = (fe en).bind fun p => (fl p.2).bind fun q => .ok (p.1 :: q.1, q.2) := nrf rfl
@[simp] theorem eN_ap {h : List PD → R PD} : eN h fl en = (fl en).bind fun p => (h p.1).bind fun z => .ok (z, p.2) := nrf rfl
@[simp] theorem tS_ap : tS ft en = (ft en).bind fun b => .ok (b, en) := nrf rfl
@[simp] theorem tE_ap : tE fe en = (fe en).bind fun p => (asB p.1).bind fun b => .ok (b, p.2) := nrf rfl
@[simp] theorem tNo_ap : tNo gt en = (gt en).bind fun p => .ok (!p.1, p.2) := nrf rfl
@[simp] theorem tAn_ap : tAn gt gu en = (gt en).bind fun p => match p.1 with
  | true => gu p.2
  | false => .ok (false, p.2) := nrf rfl
@[simp] theorem tO_ap : tO gt gu en = (gt en).bind fun p => match p.1 with
  | true => .ok (true, p.2)
  | false => gu p.2 := nrf rfl
@[simp] theorem sIfE_ap : sIfE gt f g en = (gt en).bind fun p => match p.1 with
  | true => f p.2
  | false => g p.2 := nrf rfl
@[simp] theorem sRetE_ap : sRetE fe en = (fe en).bind fun p => .ok (.rt p.1) := nrf rfl
@[simp] theorem sRetM_ap : sRetM fe en = (fe en).bind fun p => .ok (.rm p.1 p.2) := nrf rfl
@[simp] theorem sRaiseM_ap : sRaiseM c en = .ok (.xm c en) := nrf rfl
@[simp] theorem sDropX_ap : sDropX fa en = (match fa en with
  | .ok _ => .ok (.nx en)
  | .exc c => .ok (.xm c en)
  | .stuck => .stuck) := nrf rfl
@[simp] theorem sAppE_ap : sAppE i fe en = (match en[i]? with
  | some (.ol _) => (fe en).bind fun p => match p.2[i]? with
    | some (.ol ds) => if ds.length + 1 ≤ szN then .ok (.nx (p.2.set i (.ol (ds ++ [p.1])))) else .stuck
    | _ => .stuck
  | _ => .stuck) := nrf rfl
@[simp] theorem eX_ap {fx : En → RX} : eX fx en = (match fx en with
  | .ok d e => .ok (d, e)
  | .exc c _ => .exc c
  | .stuck => .stuck) := nrf rfl
@[simp] theorem eTld_ap {cs : List Str} {fx : En → RX} : eTld cs fx en = (match fx en with
  | .ok d e => .ok (d, e)
  | .exc c e => if c ∈ cs then .ok (.str c, e) else .stuck
  | .stuck => .stuck) := nrf rfl
@[simp] theorem xMeth_ap {F : List FV → List PD → RO} : xMeth i c ns F fl en = (match en[i]? with
  | some (.ob _ c' ns' _) => if c' = c ∧ ns' = ns then match fl en with
      | .ok (ds, en1) => (match en1[i]? with
        | some (.ob m c'' ns'' o) => if c'' = c ∧ ns'' = ns then match F o ds with
            | .ok d o' => .ok d (en1.set i (.ob m c ns o'))
            | .exc x o' => .exc x (en1.set i (.ob m c ns o'))
            | .stuck => .stuck
          else .stuck
        | _ => .stuck)
      | _ => .stuck
    else .stuck
  | _ => .stuck) := nrf rfl
@[simp] theorem xCallO_ap {F : List FV → List PD → RO} : xCallO i c ns F fr en = (match en[i]? with
  | some (.ob m c' ns' o) => if c' = c ∧ ns' = ns then match fr en with
      | .ok ds => (match F o ds with
        | .ok d o' => .ok d (en.set i (.ob m c ns o'))
        | .exc x o' => .exc x (en.set i (.ob m c ns o'))
        | .stuck => .stuck)
      | _ => .stuck
    else .stuck
  | _ => .stuck) := nrf rfl
@[simp] theorem sMake_ap {F : List FV → List PD → RO} : sMake i c ns F fr en = (fr en).bind fun ds => match F [] ds with
  | .ok .none o => if i < en.length then .ok (.nx (en.set i (.ob false c ns o))) else .stuck
  | .exc x _ => .exc x
  | _ => .stuck := nrf rfl
@[simp] theorem dMakeX_ap {F : List FV → List PD → RO} : dMakeX F fr en = (fr en).bind fun ds => match F [] ds with
  | .exc x _ => .exc x
  | _ => .stuck := nrf rfl
@[simp] theorem eF_ap : eF fl en = (fl en).bind fun p => .ok (.list p.1, p.2) := nrf rfl
@[simp] theorem sAsgFE_ap : sAsgFE i fl en = (fl en).bind fun p => if i < p.2.length then .ok (.nx (p.2.set i (.ol p.1))) else .stuck := nrf rfl
@[simp] theorem eIt_ap {h : PD → R (List PD)} : eIt h fe en = (fe en).bind fun p => (h p.1).bind fun ds => .ok (ds, p.2) := nrf rfl
@[simp] theorem sRetP_ap {j : Nat} : sRetP i j en = (match en[i]?, en[j]? with
  | some (.ob _ _ _ _), some (.ol ds) => if i ≠ j then .ok (.pr i (.list ds) (sShare j en)) else .stuck
  | _, _ => .stuck) := nrf rfl
@[simp] theorem dK1_ap {F : List PD → RO} : dK1 F fr en = (fr en).bind fun ds => match F ds with
  | .ok d _ => .ok d
  | .exc x _ => .exc x
  | .stuck => .stuck := nrf rfl
@[simp] theorem dK0_ap {F : List PD → RO} {M : List FV → List PD → RO} : dK0 F M fr en = (fr en).bind fun ds => match F ds with
  | .ok _ o => (match M o [] with
    | .ok d _ => .ok d
    | .exc x _ => .exc x
    | .stuck => .stuck)
  | .exc x _ => .exc x
  | .stuck => .stuck := nrf rfl
@[simp] theorem dCallF_ap {F : List PD → R PD} : dCallF F fr en = (fr en).bind fun ds => (F ds).bind fun d => if flatD d = true then .ok d else .stuck := nrf rfl
theorem runM_nx {N : Nat} {f : En → R Fl} {o o' : List FV} {ds : List PD} {r : En} (h : f (.ob true c ns o :: (ds.map SV.sh ++ List.replicate (N - 1 - ds.length) SV.no)) = .ok (.nx (.ob true c ns o' :: r))) : runM N c ns f o ds = .ok .none o' := by
  unfold runM
  rw [h]
  show (if c = c ∧ ns = ns then _ else _) = _
  rw [if_pos ⟨rfl, rfl⟩]
theorem runM_rm {N : Nat} {f : En → R Fl} {o o' : List FV} {d : PD} {ds : List PD} {r : En} (h : f (.ob true c ns o :: (ds.map SV.sh ++ List.replicate (N - 1 - ds.length) SV.no)) = .ok (.rm d (.ob true c ns o' :: r))) : runM N c ns f o ds = .ok d o' := by
  unfold runM
  rw [h]
  show (if c = c ∧ ns = ns then _ else _) = _
  rw [if_pos ⟨rfl, rfl⟩]
theorem runM_xm {N : Nat} {f : En → R Fl} {o o' : List FV} {x : Str} {ds : List PD} {r : En} (h : f (.ob true c ns o :: (ds.map SV.sh ++ List.replicate (N - 1 - ds.length) SV.no)) = .ok (.xm x (.ob true c ns o' :: r))) : runM N c ns f o ds = .exc x o' := by
  unfold runM
  rw [h]
  show (if c = c ∧ ns = ns then _ else _) = _
  rw [if_pos ⟨rfl, rfl⟩]
end
end Dn

/-! * of ints, lists and texts. -/
namespace Dn
open PySem L2
variable [Tabl]
def rRep1 : R2 := fun x y H Q => ∃ z, x = .str z ∧ y = .int 1 ∧ Q (.str z) H
theorem op_rep1 {X : Cx} : OpR X (binaryOp .Mult) rRep1 := by
  intro pins s σ H x y v u Q I rx ry h
  obtain ⟨z, rfl, rfl, q⟩ := h
  obtain ⟨t, rfl⟩ := rx
  obtain ⟨t', rfl⟩ := ry
  refine PySem.P.mul_str (by decide) (fun _ h => by simp at h) (fun _ h => by simp at h) ?_
  rw [if_neg (by decide), if_pos (by simp)]
  exact ⟨.str z, H, I, ⟨_, rfl⟩, q⟩
def rMulA : R2 := rOr rMulD (rOr rRepS rRep1)
theorem op_mulA {X : Cx} : OpR X (binaryOp .Mult) rMulA := opOr op_mulD (opOr op_repS op_rep1)
def mulA (x y : PD) : R PD := match x with
  | .str z => (match y with
    | .int k => if k = 1 then .ok (.str z) else mulS x y
    | _ => .stuck)
  | _ => mulD x y
theorem o_mulA {C : Cn} : Op2 C rMulA mulA := fun Y Z H v w x y Q hyz hz hx hy q => by
  cases x with
  | str z =>
    cases y with
    | int k =>
      unfold mulA at q
      dsimp only at q
      split at q
      · rename_i hk
        subst hk
        exact .inr (.inr ⟨z, hx.str, hy.int, q _ H (Xt.refl H) (.str _)⟩)
      · exact .inr (.inl (o_mulS Y Z H v w (.str z) (.int k) Q hyz hz hx hy q))
    | _ => exact q.elim
  | _ => exact .inl (o_mul Y Z H v w _ y Q hyz hz hx hy q)
theorem mulA_st (l : List Nat) (k : Int) (h : 1 ≤ k ∧ k < 1000) (hl : l ≠ []) (hz : l.length ≤ 1000) : mulA (.str (st l)) (.int k) = .ok (.str (st (List.replicate k.toNat l).flatten)) := by
  by_cases e : k = 1
  · subst e
    show (if (1 : Int) = 1 then R.ok (PyData.str (st l)) else mulS (.str (st l)) (.int 1)) = _
    rw [if_pos rfl]
    simp
  · show (if k = 1 then R.ok (PyData.str (st l)) else mulS (.str (st l)) (.int k)) = _
    rw [if_neg e]
    exact mulS_st l k ⟨by omega, h.2⟩ hl hz
@[simp] theorem mulA_int (a b : Int) : mulA (.int a) (.int b) = mulD (.int a) (.int b) := nrf rfl
@[simp] theorem mulA_list (a : List PD) (b : Int) : mulA (.list a) (.int b) = mulD (.list a) (.int b) := nrf rfl
end Dn

/-! several names at once by a tuple; two lists made one; an item set. -/
namespace Dn
open PySem L2
variable [Tabl]
section
variable {C : Cn} {te ta tb : TE} {tA : TA} {fa fb : En → R PD}
theorem es_parT3 {i j l : Nat} {f : En → En → R En} (h : EdP C tA [i, j, l] f) : Es C (tAsg (tTup tA) (gTup C.K 3 (gCons (gName i) (gCons (gName j) (gCons (gName l) gNil))))) (sParM f) := fun H0 ext reg en σ H rs D w => h H0 ext reg en σ H rs H0 ext reg en σ rs (fun _ z => z) _ (by
  unfold sParM at w
  generalize f en en = x at w ⊢
  cases x with
  | ok e =>
    intro vs reg2 H2 e2 hl r2
    match vs, hl with
    | [u, v, z], _ => exact ⟨by simp [sizeLine], fun p hp => ⟨p, _, rfl, SqT.of upd_same, rfl, u, _, rfl, v, _, rfl, z, _, rfl, rfl, w _ _ _ (r2.ex (Xt.new hp))⟩⟩
  | exc c => exact WS.exc w rs.le rs.tb
  | stuck => exact w.elim)
/-- xs + ys, a new list -/
def catD : PD → PD → R (List PD)
  | .list a, .list b => if a.length + b.length ≤ szN then .ok (a ++ b) else .stuck
  | _, _ => .stuck
def dCat (fa fb : En → R PD) : En → R (List PD) := fun en => (fa en).bind fun x => (fb en).bind fun y => catD x y
theorem WrF.ex {Z : AS} {H H1 : Hp} {Q : VK} {r : R (List PD)} (w : WrF C Z H Q r) (e : Xt H H1) : WrF C Z H1 Q r := by
  cases r with
  | ok d => exact fun p xs H2 e2 hp h => w p xs H2 (e.trans e2) hp h
  | exc c => exact fun H2 e2 => w H2 (e.trans e2)
  | stuck => exact w
theorem ef_cat (ha : EdL C ta fa) (hb : EdL C tb fb) : EdF C (tOp rAddD ta tb) (dCat fa fb) := fun H0 ext reg en σ H rs Q w =>
  ha.seq rs (W := WrF C (own ext reg) H Q) w (fun _ q => q) (fun q => q) fun x v H2 e2 r2 h2 w2 =>
    hb.seq r2 (W := WrF C (own ext reg) H2 Q) (WrF.ex w2 e2) (fun _ q => q) (fun q => q) fun y u H3 e3 r3 h3 w3 => by
      have w4 := WrF.ex w3 e3
      have hx := h2.mono e3.toEx.hid.le e3.toEx.hid
      cases x with
      | list a =>
        cases y with
        | list b =>
          unfold catD at w4
          dsimp only at w4
          split at w4
          · rename_i hl
            obtain ⟨p, xs, rfl, q1, r1⟩ := hx.lst (fun a z => .inl z)
            obtain ⟨p', ys, rfl, q2, r2'⟩ := h3.lst (fun a z => .inl z)
            exact .inr (.inr ⟨p, p', xs, ys, rfl, rfl, q1, q2, sz_of (by rw [r1.length, r2'.length]; exact hl), fun n hn => w4 n _ _ (Xt.refl _) hn (r1.app r2')⟩)
          · exact w4.elim
        | _ => exact w4.elim
      | _ => exact w4.elim
/-- xs[k] = e, the slot's own list -/
def sSetI (i : Nat) (fi fa : En → R PD) : En → R Fl := fun en => match en[i]? with
  | some (.ol ds) => (fa en).bind fun d => (fi en).bind fun k => match k with
    | .int k => match ixN ds.length k with
      | some j => .ok (.nx (en.set i (.ol (ds.set j d))))
      | none => .stuck
    | _ => .stuck
  | _ => .stuck
theorem es_setI {i : Nat} {ti : TE} {fi : En → R PD} (hi : EdS C ti fi) (h : EdS C te fa) : Es C (tAsg te (gSub (tVar i) ti rSetL)) (sSetI i fi fa) := fun H0 ext reg en σ H rs D w => by
  unfold sSetI at w
  cases e : en[i]? with
  | none => rw [e] at w; exact w.elim
  | some sv =>
    rw [e] at w
    cases sv with
    | ol ds =>
      obtain ⟨p, xs, h1, h2, h3, h4⟩ := rs.at e
      refine h.seq rs (W := WS C H0 ext D) w (fun _ q => WS.exc q rs.le rs.tb) (fun q => q) fun d v H2 e2 r2 h5 w2 => ⟨_, h1, hi.seq r2 (W := WS C H0 ext D) w2 (fun _ q => WS.exc q r2.le r2.tb) (fun q => q) fun k vk H3 e3 r3 h6 w3 => ?_⟩
      cases k with
      | int k =>
        dsimp only at w3
        split at w3
        · rename_i j hj
          cases h6
          have e4 := e2.trans e3
          refine ⟨p, xs, k, j, rfl, rfl, e4.l h3, by rw [h4.length]; exact hj, w3 _ _ _ (r3.wr (sv := .ol (ds.set j d)) rfl ⟨_, e4.l h3, rfl⟩ h2 h1 ?_)⟩
          exact ⟨p, _, rfl, h2, upd_same, (h4.mono e4.toEx.hid.le).set (h5.mono e3.toEx.hid.le) j⟩
        · exact w3.elim
      | _ => exact w3.elim
    | _ => exact w.elim
end
section
variable {i : Nat} {en : En} {fa fb fi : En → R PD} {ds : List PD} {d : PD}
@[simp] theorem dCat_ap : dCat fa fb en = (fa en).bind fun x => (fb en).bind fun y => catD x y := nrf rfl
@[simp] theorem catD_l {a b : List PD} : catD (.list a) (.list b) = if a.length + b.length ≤ szN then .ok (a ++ b) else .stuck := nrf rfl
theorem sSetI_ap {k : Int} {j : Nat} (h : en[i]? = some (.ol ds)) (h1 : fa en = .ok d) (h2 : fi en = .ok (.int k)) (h3 : ixN ds.length k = some j) : sSetI i fi fa en = .ok (.nx (en.set i (.ol (ds.set j d)))) := by
  unfold sSetI
  rw [h]
  simp only [h1, h2, R.bind_ok, h3]
end
end Dn

/-! tuples made one; lists of what methods tell, owned. -/
namespace Dn
open PySem L2
variable [Tabl]
def addA (x y : PD) : R PD := match x, y with
  | .tuple a, .tuple b => if a ≠ [] ∧ b ≠ [] ∧ a.length + b.length ≤ szN then .ok (.tuple (a ++ b)) else .stuck
  | _, _ => addD x y
def rAddA (K : PySem.W.Frag) : R2 := rOr rAddD (rCatT K)
theorem op_addA {X : Cx} (K : PySem.W.Frag) (h : X.K = K) : OpR X (binaryOp .Add) (rAddA K) := by
  subst h
  exact opOr op_addD op_catT
section
variable {C : Cn}
theorem o_addA : Op2 C (rAddA C.K) addA := fun Y Z H v w x y Q hyz hz hx hy q => by
  unfold addA at q
  split at q
  · rename_i a b
    split at q
    · rename_i h
      obtain ⟨h1, h2, h3⟩ := h
      obtain ⟨p, xs, rfl, q1, r1⟩ := hx.tup hyz
      obtain ⟨p', ys, rfl, q2, r2⟩ := hy.tup hyz
      have n1 : xs ≠ [] := fun z => h1 (by cases r1 with | nil => rfl | cons _ _ => cases z)
      have n2 : ys ≠ [] := fun z => h2 (by cases r2 with | nil => rfl | cons _ _ => cases z)
      exact .inr ⟨p, p', xs, ys, rfl, rfl, q1, q2, n1, sz_of (by rw [r1.length, r2.length]; exact h3), fun z => absurd z n2, fun _ n hn => q _ _ (Xt.new hn) (Rp.newT hz hn (r1.app r2))⟩
    · exact q.elim
  · exact .inl (o_add Y Z H v w x y Q hyz hz hx hy q)
def dLstE (fa : En → R (List PD × En)) : En → R (List PD × En) := fun en => (fa en).bind fun p => (chk p.1).bind fun l => .ok (l, p.2)
theorem efe_lst {ta : TA} {fa : En → R (List PD × En)} (h : EdEA C ta fa) : EdFE C (tLst ta) (dLstE fa) := fun H0 ext reg en σ H rs Q w => h H0 ext reg en σ H rs _ (by
  unfold dLstE at w
  generalize fa en = x at w ⊢
  cases x with
  | ok p =>
    obtain ⟨ds, en'⟩ := p
    intro vs reg' H2 e2 r2 hv
    simp only [R.bind_ok] at w
    unfold chk at w
    split at w
    · rename_i hl
      exact ⟨sz_of (by rw [hv.length]; exact hl), fun p hp => w p vs reg' H2 e2 r2 hp hv⟩
    · exact w.elim
  | exc c => exact w
  | stuck => exact w.elim)
end
@[simp] theorem addA_tup (a b : List PD) : addA (.tuple a) (.tuple b) = if a ≠ [] ∧ b ≠ [] ∧ a.length + b.length ≤ szN then .ok (.tuple (a ++ b)) else .stuck := nrf rfl
@[simp] theorem addA_int (a b : Int) : addA (.int a) (.int b) = .ok (.int (a + b)) := nrf rfl
@[simp] theorem addA_list (a b : List PD) : addA (.list a) (.list b) = addD (.list a) (.list b) := nrf rfl
@[simp] theorem addA_str (a b : Str) : addA (.str a) (.str b) = addD (.str a) (.str b) := nrf rfl
@[simp] theorem dLstE_ap {fa : En → R (List PD × En)} {en : En} : dLstE fa en = (fa en).bind fun p => (chk p.1).bind fun l => .ok (l, p.2) := nrf rfl
end Dn

/-! replace of what a replace gave; a test of it. -/
namespace Dn
open PySem L2 PySem.Spec PyProof.Rows
section
variable {X : Cx}
theorem pet_replT {o : Expr} {to : TE} {y z : Str} {j0 j1 : Nat} {c0 c1 apos pos : Pos} (hyz : (y == z) = false) (ho : PET X o to)
    (hbase : attributeBase o "replace" X.env (eval o X.env) = eval o X.env := by rfl) (hline : (apos.endLine == pos.line) = true := by rfl) :
    PET X (.Call (.Attribute o "replace" apos) [.Constant (.str y) j0 c0, .Constant (.str z) j1 c1] [] pos) (tRepl y z to) := by
  intro pins s σ H Q h0 I h
  refine PySem.Call_method2 hbase rfl hline (wpAny_mono (PySem.wpAny_toks (ho pins s σ H _ h0 I h)) (fun v s1 q => ?_) fun _ _ z => z.2)
  obtain ⟨hk, x, H1, I1, r1, a, rfl, hb, q1⟩ := q
  obtain ⟨t, rfl⟩ := _root_.id r1
  refine ⟨"str", _, F.plainAttrs_str, F.slot_str_replace, F.type_str_replace, typeIs_str _ _ _, (fun _ e => nomatch e), Calls.callWith_builtin rfl (Calls.evalArgs_plain (Calls.spliced_cons ?_))⟩
  refine Calls.Constant_str (Calls.spliced_cons (Calls.Constant_str (Calls.spliced_nil ?_)))
  have h1 : 1 ≤ s1.toks := Nat.le_trans h0 hk
  exact PySem.SC.replace (show s1.toks ≠ 0 by omega) (show s1.toks + 1 ≠ 0 by omega) (show s1.toks ≠ s1.toks + 1 by omega) hyz hb fun t' k => ⟨.str (Txt.replace a y z), H1, I1.tok k, ⟨t', rfl⟩, q1⟩
theorem pst_ifR {op : CmpOp} {r : R2} {a b : Expr} {ta tb : TE} {c d : List Stmt} {t u : TS} {pos pos' : Pos} (ho : OpR X (compareOp op) r) (ha : PET X a ta) (hb : PE X b tb) (hm : behindInMarks op b = false) (hc : PSs X c t) (hd : PSs X d u) :
    PST X (.If (.Compare a [op] [b] pos) c d pos') (tIfS (tTest (tOp r ta tb)) t u) := by
  intro pins s σ H D h0 I h
  refine wpAny_If ?_
  refine wpAny_isTrue_Compare1 (thn (ha pins s σ H _ h0 I h) fun v s1 ⟨x, H1, I1, r1, q1⟩ => thn (hb.run pins s1 σ H1 _ I1 q1) fun w s2 ⟨y, H2, I2, r2, q2⟩ =>
    thn (ho pins s2 σ H2 x y v w _ I2 r1 r2 q2) fun c s3 ⟨z, H3, I3, r3, k, e, q3⟩ => ?_) hm
  subst e
  cases r3
  refine wpAny_truthy_bool ?_
  cases k with
  | true => exact hc.run pins s3 σ H3 D I3 q3
  | false => exact hd.run pins s3 σ H3 D I3 q3
end
end Dn

/-! a text times a number, nothing too. -/
namespace Dn
open PySem L2
variable [Tabl]
def rRep0 : R2 := fun x y H Q => ∃ z, x = .str z ∧ y = .int 0 ∧ Q (.str Str.empty) H
theorem op_rep0 {X : Cx} : OpR X (binaryOp .Mult) rRep0 := by
  intro pins s σ H x y v u Q I rx ry h
  obtain ⟨z, rfl, rfl, q⟩ := h
  obtain ⟨t, rfl⟩ := rx
  obtain ⟨t', rfl⟩ := ry
  exact PySem.P.mul_str_none (by decide) (by decide) ⟨.str Str.empty, H, I.tok _, ⟨_, rfl⟩, q⟩
def rMulB : R2 := rOr rMulA rRep0
theorem op_mulB {X : Cx} : OpR X (binaryOp .Mult) rMulB := opOr op_mulA op_rep0
def mulB (x y : PD) : R PD := match x with
  | .str z => (match y with
    | .int k => if k = 0 then .ok (.str Str.empty) else mulA x y
    | _ => .stuck)
  | _ => mulA x y
theorem o_mulB {C : Cn} : Op2 C rMulB mulB := fun Y Z H v w x y Q hyz hz hx hy q => by
  cases x with
  | str z =>
    cases y with
    | int k =>
      unfold mulB at q
      dsimp only at q
      split at q
      · rename_i hk
        subst hk
        exact .inr ⟨z, hx.str, hy.int, q _ H (Xt.refl H) (.str _)⟩
      · exact .inl (o_mulA Y Z H v w (.str z) (.int k) Q hyz hz hx hy q)
    | _ => exact q.elim
  | _ => exact .inl (o_mulA Y Z H v w _ y Q hyz hz hx hy q)
@[simp] theorem mulB_int (a b : Int) : mulB (.int a) (.int b) = mulD (.int a) (.int b) := nrf rfl
@[simp] theorem mulB_list (a : List PD) (b : Int) : mulB (.list a) (.int b) = mulD (.list a) (.int b) := nrf rfl
end Dn

/-! what is never reached; objects that are only read; items of a field's list. -/
namespace Dn
open PySem L2
variable [Tabl]
/-! ### never -/
def sNever : En → R Fl := fun _ => .stuck
theorem es_never {C : Cn} : Es C tNever sNever := fun H0 ext reg en σ H rs D w => w.elim
@[simp] theorem sNever_ap {en : En} : sNever en = .stuck := nrf rfl
section
variable {C : Cn} {te ta : TE} {fa : En → R PD}
/-! ### objects that are only read -/
def dFldV (i : Nat) (c : Str) (ns : List Str) (k : Nat) : En → R PD := fun en => match en[i]? with
  | some (.vw c' ns' ds) => if c' = c ∧ ns' = ns then match ds[k]? with
      | some d => .ok d
      | none => .stuck
    else .stuck
  | _ => .stuck
theorem ed_fldV {i k : Nat} {c f : Str} {ns : List Str} (h : ClF C.K (Tabl.C c) ns k f) : EdS C (tFld C.K (tVar i) f) (dFldV i c ns k) := fun H0 ext reg en σ H rs Q w => by
  unfold dFldV at w
  cases e : en[i]? with
  | none => rw [e] at w; exact w.elim
  | some sv =>
    rw [e] at w
    cases sv with
    | vw c' ns' ds =>
      dsimp only at w
      split at w
      · rename_i he
        obtain ⟨rfl, rfl⟩ := he
        obtain ⟨v0, h1, p, dx, vs, rfl, h4, h5, h6⟩ := rs.sl i _ e
        split at w
        · rename_i d ek
          obtain ⟨v, hv, hr⟩ := h6.get ek
          exact ⟨_, h1, p, _, dx, vs, v, rfl, (hid_some h4).2, h.cl, h.no, lookup_at h5 h.nd h.at_ hv, w v H (Xt.refl H) hr⟩
        · exact w.elim
      · exact w.elim
    | _ => exact w.elim
/-- what a method that only reads promises -/
def spV (K : PySem.W.Frag) (cl : Str → Addr) (c : Str) (ns : List Str) (n : Nat) (F : List PD → List PD → R PD) : Sp := fun vs H Q E => ∃ (ext : AS) (p dx : Addr) (fv : List (Str × V)) (us : List V) (fs ds : List PD), vs = .ref p :: us ∧ us.length = n ∧ LamX.Tabs Tabl.T H ∧ (∀ a, ext a → So H a) ∧
  hid H ext p = some (.ins (Tabl.C c) dx fv) ∧ fv.map (·.1) = ns.take fs.length ∧ RpA K (hid H ext) (fv.map (·.2)) fs ∧ RpA K (hid H ext) us ds ∧ WrS ⟨K, E, cl⟩ ext H Q (F fs ds)
def runV (N : Nat) (c : Str) (ns : List Str) (f : En → R Fl) (fs ds : List PD) : R PD := (f (.vw c ns fs :: (ds.map SV.sh ++ List.replicate (N - 1 - ds.length) SV.no))).bind fun fl => match fl with
  | .nx _ => .ok .none
  | .rt d => .ok d
  | _ => .stuck
theorem RS.startV {K : PySem.W.Frag} {H : Hp} {ext : AS} {p dx : Addr} {fv : List (Str × V)} {us : List V} {fs ds : List PD} {N : List Str} {c : Str} {ns : List Str} (tb : LamX.Tabs Tabl.T H) (hx : ∀ a, ext a → So H a) (ho : hid H ext p = some (.ins (Tabl.C c) dx fv)) (hn : fv.map (·.1) = ns.take fs.length) (hf : RpA K (hid H ext) (fv.map (·.2)) fs) (h : RpA K (hid H ext) us ds) (hN : 0 < N.length) :
    RS K H ext (fun _ _ => False) (.vw c ns fs :: (ds.map SV.sh ++ List.replicate (N.length - 1 - ds.length) SV.no)) (L2.start N (.ref p :: us)) H := by
  have hoe : own ext (fun _ _ => False) = ext := by
    funext a
    apply propext
    constructor
    · rintro (h | ⟨_, h⟩)
      · exact h
      · exact h.elim
    · exact fun h => .inl h
  refine ⟨Ex.refl H, tb, hx, fun _ _ h => h.elim, fun _ _ _ h => h.elim, fun _ _ h => h.elim, ?_, fun i sv e => ?_⟩
  · unfold L2.start
    simp only [List.length_cons, List.length_append, List.length_map, List.length_replicate, h.length]
    omega
  · rw [hoe]
    unfold L2.start
    cases i with
    | zero =>
      cases e
      exact ⟨_, rfl, p, dx, fv, rfl, ho, hn, hf⟩
    | succ i =>
      rw [List.getElem?_cons_succ] at e
      have hs : ∀ (x : Option V) (l : List (Option V)), (x :: l)[i + 1]? = l[i]? := fun _ _ => rfl
      rw [List.map_cons, List.cons_append, hs]
      by_cases hi : i < ds.length
      · rw [List.getElem?_append_left (by rw [List.length_map]; exact hi), List.getElem?_map, List.getElem?_eq_getElem hi] at e
        cases e
        obtain ⟨v, h1, h2⟩ := h.get (List.getElem?_eq_getElem hi)
        refine ⟨some v, ?_, v, rfl, h2⟩
        rw [List.getElem?_append_left (by rw [List.length_map, h.length]; exact hi), List.getElem?_map, h1]
        rfl
      · rw [List.getElem?_append_right (by rw [List.length_map]; omega), List.length_map, List.getElem?_replicate] at e
        split at e
        · rename_i hl
          cases e
          refine ⟨none, ?_, trivial⟩
          rw [List.getElem?_append_right (by rw [List.length_map, h.length]; omega), List.length_map, List.getElem?_replicate, h.length, if_pos (by have := h.length; simp only [List.length_cons]; omega)]
        · cases e
end
section
variable {P : Program} {w : World} {K : PySem.W.Frag} {mg : Str → Option Value} {base : Heap}
theorem def_okV {x qual : Str} {st : Stmt} {f : Addr} {fd : FuncData} {N : List Str} {s0 : Str} {ps : List Str} {k : Nat} {cl : Str → Addr} {c : Str} {ns : List Str} {body : En → R Fl} (F : Fun K x qual st f fd) (S : FnScope N (s0 :: ps) (defScope st)) (hN : 0 < N.length)
    (hb : ∀ (cdv : Value) (A : Around) (outer : List Env) (s : Shared) (H : Hp) (E : XK), Room k (A.deeper (PyProof.Rows.envOfC qual (defScope st) s.heap.objs.size f cdv)) →
      ∃ t, PSs (cxOf (L2N.CX P w) P w K mg base N qual (defScope st) f cdv A outer s H E) (defBody st) t ∧ Es ⟨K, E, cl⟩ t body) :
    FnOk P w K mg base (L2N.CX P w) (k + 1) f fd (s0 :: ps) (spV K cl c ns ps.length (runV N.length c ns body)) := by
  refine okN F S (fun vs H Q E h => ?_) fun cdv A outer s H vs Q E hr h => ?_
  · obtain ⟨ext, p, dx, fv, us, fs, ds, rfl, hl, _⟩ := h
    simp [hl]
  obtain ⟨t, ht, hs⟩ := hb cdv A outer s H E hr
  refine ⟨t, ht, ?_⟩
  obtain ⟨ext, p, dx, fv, us, fs, ds, rfl, hl, htb, hx, ho, hn, hf, hv, wr⟩ := h
  refine hs H ext (fun _ _ => False) _ _ H (RS.startV htb hx ho hn hf hv hN) _ ?_
  unfold runV at wr
  generalize body (.vw c ns fs :: (ds.map SV.sh ++ List.replicate (N.length - 1 - ds.length) SV.no)) = r at wr ⊢
  cases r with
  | ok fl =>
    cases fl with
    | nx e => exact fun reg σ H2 r2 => wr .non H2 ⟨r2.le, fun _ => r2.tb⟩ .non
    | rt d => exact fun v H2 e2 tb h2 => wr v H2 ⟨e2, fun _ => tb⟩ h2
    | bk e => exact wr.elim
    | ct e => exact wr.elim
    | rm d e => exact wr.elim
    | rn d e => exact wr.elim
    | xm d e => exact wr.elim
    | pr i d e => exact wr.elim
  | exc c => exact fun H2 e2 tb => wr H2 ⟨e2, fun _ => tb⟩
  | stuck => exact wr.elim
end
def fvD : FV → PD
  | .sh d => d
  | .ol ds => .list ds
theorem FsOk.rpa {K : PySem.W.Frag} {H : Hp} {r Y Z : AS} (hyz : ∀ a, Y a → Z a) (hr : ∀ a, r a → ¬ Y a) : ∀ {vs : List V} {fs : List FV} {L : List Addr}, FsOk K (hid H Z) H r vs fs L → RpA K (hid H Y) vs (fs.map fvD)
  | _, _, _, .nil => .nil
  | _, _, _, .sh h t => .cons (h.mono (hid_less hyz).le) (FsOk.rpa hyz hr t)
  | _, _, _, .ol a b c _ t => .cons (.lst (by rw [hid_at (hr _ a)]; exact b) (c.mono (hid_less hyz).le)) (FsOk.rpa hyz hr t)
def flatR (r : R PD) : R PD := r.bind fun d => if flatD d = true then .ok d else .stuck
/-- o.m(..), a method that only reads and tells a flat thing -/
def dMeV (i : Nat) (c : Str) (ns : List Str) (F : List PD → List PD → R PD) (fa : En → R (List PD)) : En → R PD := fun en => match en[i]? with
  | some (.ob _ c' ns' fs) => if c' = c ∧ ns' = ns then (fa en).bind fun ds => flatR (F (fs.map fvD) ds) else .stuck
  | some (.vw c' ns' fs) => if c' = c ∧ ns' = ns then (fa en).bind fun ds => flatR (F fs ds) else .stuck
  | _ => .stuck
section
variable {C : Cn} {te ta : TE} {fa : En → R PD}
theorem spV_of {n : Nat} {c : Str} {ns : List Str} {F : List PD → List PD → R PD} {H0 H : Hp} {ext : AS} {reg : Nat → AS} {en : En} {σ : L2.St} {Q : VK} {p dx : Addr} {fv : List (Str × V)} {us : List V} {fs ds : List PD} (rs : RS C.K H0 ext reg en σ H) (hl : us.length = n) (ho : hid H ext p = some (.ins (Tabl.C c) dx fv)) (hn : fv.map (·.1) = ns.take fs.length) (hf : RpA C.K (hid H ext) (fv.map (·.2)) fs) (hu : RpLA C.K (hid H (own ext reg)) (hid H ext) us ds)
    (w : WrS C (own ext reg) H Q (flatR (F fs ds))) : spV C.K C.cl c ns n F (.ref p :: us) H Q C.E := by
  refine ⟨ext, p, dx, fv, us, fs, ds, rfl, hl, rs.tb, fun a z => rs.so (.inl z), ho, hn, hf, hu.rpa ((Ex.refl H).hidLess fun a z => .inl z).le fun q => q.rp (hid_less fun a z => .inl z), ?_⟩
  unfold flatR at w
  generalize F fs ds = z at w ⊢
  cases z with
  | ok d =>
    simp only [R.bind_ok] at w
    intro v H3 e3 hv
    split at w
    · rename_i hf
      exact w v H3 e3 (hv.flatAny hf)
    · exact w.elim
  | exc c => exact w
  | stuck => exact w
theorem RpLA.len {K : PySem.W.Frag} {Hs H : Hp} : ∀ {vs : List V} {ds : List PD}, RpLA K Hs H vs ds → vs.length = ds.length
  | _, _, .nil => rfl
  | _, _, .cons _ r => by simp [RpLA.len r]
theorem ed_meV {i n : Nat} {c m : Str} {ns : List Str} {F : List PD → List PD → R PD} {tA : TA} {fa : En → R (List PD)} (hm : m ∉ ns) (hn : ∀ en ds, fa en = .ok ds → ds.length = n) (ha : EdB C tA fa) : EdS C (tMeth (Tabl.C c) m (spV C.K C.cl c ns n F) [] C.E (tVar i) tA) (dMeV i c ns F fa) := fun H0 ext reg en σ H rs Q w => by
  unfold dMeV at w
  cases e : en[i]? with
  | none => rw [e] at w; exact w.elim
  | some sv =>
    rw [e] at w
    cases sv with
    | ob m0 c' ns' o0 =>
      dsimp only at w
      split at w
      case isFalse => exact w.elim
      rename_i hc
      obtain ⟨rfl, rfl⟩ := hc
      obtain ⟨p, dx, vs, L, h1, h2, h3, h4, h5, hl, h6⟩ := rs.atO e
      refine ⟨_, h1, p, dx, vs, rfl, h4, lookup_no h5 hm, ha H0 ext reg en σ H rs _ ?_⟩
      cases ef : fa en with
      | exc x => rw [ef] at w; exact w
      | stuck => rw [ef] at w; exact w.elim
      | ok ds =>
        rw [ef] at w
        simp only [R.bind_ok] at w
        intro us H1 e1 hu
        rw [List.append_nil]
        have r1 := rs.ex e1
        obtain ⟨p', dx', vs', L', g1, g2, g3, g4, g5, gl, g6⟩ := r1.atO e
        have ep : p' = p := by
          rw [h1] at g1
          cases g1
          rfl
        subst ep
        refine spV_of (fs := o0.map fvD) r1 (by rw [hu.len]; exact hn en ds ef) (by rw [hid_at (r1.noext g3)]; exact g4) (by rw [List.length_map]; exact g5) (g6.rpa (fun a z => .inl z) fun a z => r1.noext z) hu (WrS.ex w e1)
    | vw c' ns' fs =>
      dsimp only at w
      split at w
      case isFalse => exact w.elim
      rename_i hc
      obtain ⟨rfl, rfl⟩ := hc
      obtain ⟨v0, h1, p, dx, vs, rfl, h4, h5, h6⟩ := rs.sl i _ e
      refine ⟨_, h1, p, dx, vs, rfl, (hid_some h4).2, lookup_no h5 hm, ha H0 ext reg en σ H rs _ ?_⟩
      cases ef : fa en with
      | exc x => rw [ef] at w; exact w
      | stuck => rw [ef] at w; exact w.elim
      | ok ds =>
        rw [ef] at w
        simp only [R.bind_ok] at w
        intro us H1 e1 hu
        rw [List.append_nil]
        have r1 := rs.ex e1
        have up := e1.toEx.hid (Z := own ext reg)
        have le : Ex (hid H1 (own ext reg)) (hid H1 ext) := hid_less fun a z => .inl z
        exact spV_of (fs := fs) r1 (by rw [hu.len]; exact hn en ds ef) (le.k _ _ (up.k _ _ h4 rfl) rfl) h5 (h6.mono (up.trans le).le) hu (WrS.ex w e1)
    | _ => exact w.elim
/-! ### o.f[k] = e -/
def sFldSetI (i : Nat) (c : Str) (ns : List Str) (k : Nat) (fi fa : En → R PD) : En → R Fl := fun en => match en[i]? with
  | some (.ob m c' ns' fs) => if c' = c ∧ ns' = ns then match fs[k]? with
      | some (.ol ds) => (fa en).bind fun d => (fi en).bind fun x => match x with
        | .int x => (match ixN ds.length x with
          | some j => .ok (.nx (en.set i (.ob m c ns (fs.set k (.ol (ds.set j d))))))
          | none => .stuck)
        | _ => .stuck
      | _ => .stuck
    else .stuck
  | _ => .stuck
theorem es_fldSetI {i k : Nat} {c f : Str} {ns : List Str} {ti : TE} {fi : En → R PD} (h : ClF C.K (Tabl.C c) ns k f) (hi : EdS C ti fi) (ha : EdS C te fa) : Es C (tAsg te (gSub (tFld C.K (tVar i) f) ti rSetL)) (sFldSetI i c ns k fi fa) := fun H0 ext reg en σ H rs D w => by
  unfold sFldSetI at w
  cases e : en[i]? with
  | none => rw [e] at w; exact w.elim
  | some sv =>
    rw [e] at w
    cases sv with
    | ob m c' ns' fs =>
      dsimp only at w
      split at w
      · rename_i hc
        obtain ⟨rfl, rfl⟩ := hc
        split at w
        · rename_i ds ek
          refine ha.seq rs (W := WS C H0 ext D) w (fun _ q => WS.exc q rs.le rs.tb) (fun q => q) fun d v H2 e2 r2 hd w2 => ?_
          obtain ⟨p, dx, vs, L, h1, h2, h3, h4, h5, hl, h6⟩ := r2.atO e
          obtain ⟨q, xs, hv, hqL, hrq, hq, hx⟩ := h6.getL ek
          refine ⟨_, h1, p, _, dx, vs, .ref q, rfl, h4, h.cl, h.no, lookup_at h5 h.nd h.at_ hv, hi.seq r2 (W := WS C H0 ext D) w2 (fun _ q => WS.exc q r2.le r2.tb) (fun q => q) fun x vx H3 e3 r3 h7 w3 => ?_⟩
          cases x with
          | int x =>
            dsimp only at w3
            split at w3
            · rename_i j hj
              cases h7
              refine ⟨q, xs, x, j, rfl, rfl, e3.l hq, by rw [hx.length]; exact hj, w3 _ _ _ (r3.wrF e h1 h2 h3 (e3.k _ _ h4 rfl) h5 (h6.mono e3.toEx.hid.le fun a o _ z n => e3.k a o z n) ek hv (e3.l hq) hrq ((hx.mono e3.toEx.hid.le).set (hd.mono e3.toEx.hid.le) j))⟩
            · exact w3.elim
          | _ => exact w3.elim
        · exact w.elim
      · exact w.elim
    | _ => exact w.elim
/-! ### a slice, a new list -/
def slF : PD → Option Int → Option Int → R (List PD)
  | .list xs, lo, hi => .ok (cutD xs lo hi)
  | _, _, _ => .stuck
def dSlF (fa : En → R PD) (fl fh : En → R (Option Int)) : En → R (List PD) := fun en => (fa en).bind fun x => (fl en).bind fun l => (fh en).bind fun h => slF x l h
theorem ef_sl {tl th : TO} {fl fh : En → R (Option Int)} (h : EdL C ta fa) (hl : EdO C tl fl) (hh : EdO C th fh) : EdF C (tSl (rSlD C.K) ta tl th) (dSlF fa fl fh) := fun H0 ext reg en σ H rs Q w =>
  h.seq rs (W := WrF C (own ext reg) H Q) w (fun _ q => q) (fun q => q) fun x v H2 e2 r2 h2 w2 =>
    hl.seq r2 (W := WrF C (own ext reg) H2 Q) (WrF.ex w2 e2) (fun _ q => q) (fun q => q) fun l H3 e3 r3 w3 =>
      hh.seq r3 (W := WrF C (own ext reg) H3 Q) (WrF.ex w3 e3) (fun _ q => q) (fun q => q) fun u H4 e4 r4 w4 => by
        have w5 := WrF.ex w4 e4
        have h5 := h2.mono (e3.trans e4).toEx.hid.le (e3.trans e4).toEx.hid
        clear w4 w3 w2 w h2
        unfold slF at w5
        split at w5
        · obtain ⟨p, xs, rfl, hp, hr⟩ := h5.lst fun a z => .inl z
          exact .inl ⟨p, xs, rfl, SqL.of hp, fun q hq => w5 q _ _ (Xt.refl _) hq (hr.cut l u)⟩
        · exact w5.elim
end
section
variable {i k : Nat} {c : Str} {ns : List Str} {en : En} {fa fi : En → R PD} {fl fh : En → R (Option Int)} {F : List PD → List PD → R PD} {fr : En → R (List PD)}
@[simp] theorem dFldV_ap : dFldV i c ns k en = (match en[i]? with
  | some (.vw c' ns' ds) => if c' = c ∧ ns' = ns then match ds[k]? with
      | some d => .ok d
      | none => .stuck
    else .stuck
  | _ => .stuck) := nrf rfl
@[simp] theorem dMeV_ap : dMeV i c ns F fr en = (match en[i]? with
  | some (.ob _ c' ns' fs) => if c' = c ∧ ns' = ns then (fr en).bind fun ds => flatR (F (fs.map fvD) ds) else .stuck
  | some (.vw c' ns' fs) => if c' = c ∧ ns' = ns then (fr en).bind fun ds => flatR (F fs ds) else .stuck
  | _ => .stuck) := nrf rfl
@[simp] theorem flatR_ok {d : PD} : flatR (.ok d) = if flatD d = true then .ok d else .stuck := nrf rfl
@[simp] theorem flatR_exc {x : Str} : flatR (.exc x) = .exc x := nrf rfl
@[simp] theorem flatD_none : flatD .none = true := nrf rfl
@[simp] theorem flatD_bool {b : Bool} : flatD (.bool b) = true := nrf rfl
@[simp] theorem flatD_int {b : Int} : flatD (.int b) = true := nrf rfl
@[simp] theorem flatD_str {b : Str} : flatD (.str b) = true := nrf rfl
@[simp] theorem fvD_sh {d : PD} : fvD (.sh d) = d := nrf rfl
@[simp] theorem fvD_ol {ds : List PD} : fvD (.ol ds) = .list ds := nrf rfl
@[simp] theorem dSlF_ap : dSlF fa fl fh en = (fa en).bind fun x => (fl en).bind fun l => (fh en).bind fun h => slF x l h := nrf rfl
@[simp] theorem slF_l {xs : List PD} {lo hi : Option Int} : slF (.list xs) lo hi = .ok (cutD xs lo hi) := nrf rfl
theorem sFldSetI_ap {m : Bool} {fs : List FV} {ds : List PD} {x : Int} {j : Nat} {d : PD} (h : en[i]? = some (.ob m c ns fs)) (hk : fs[k]? = some (.ol ds)) (h1 : fa en = .ok d) (h2 : fi en = .ok (.int x)) (h3 : ixN ds.length x = some j) : sFldSetI i c ns k fi fa en = .ok (.nx (en.set i (.ob m c ns (fs.set k (.ol (ds.set j d)))))) := by
  unfold sFldSetI
  rw [h]
  dsimp only
  rw [if_pos ⟨rfl, rfl⟩, hk]
  simp only [h1, h2, R.bind_ok, h3]
end
end Dn

/-! methods that tell a new list; objects made among several names. -/
namespace Dn
open PySem L2
variable [Tabl]
/-! ### methods that tell a new list -/
inductive RN where
  | ok (ds : List PD) (o : List FV)
  | exc (c : Str) (o : List FV)
  | stuck
def WrMN (C : Cn) (c : Str) (ns : List Str) (ext r : AS) (p : Addr) (H : Hp) (Q : VK) : RN → Prop
  | .ok ds o => ∀ q xs r' H2, MtS C.K c ns ext r p H r' o H2 → H2 q = none → RpA C.K (hid H2 (uni ext r')) xs ds → Q (.ref q) (upd H2 q (.lst xs))
  | .exc x o => ∀ r' H2, MtS C.K c ns ext r p H r' o H2 → C.E (.ref (C.cl x)) none H2
  | .stuck => False
def spMN (K : PySem.W.Frag) (cl : Str → Addr) (c : Str) (ns : List Str) (n : Nat) (F : List FV → List PD → RN) : Sp := fun vs H Q E => ∃ (ext r : AS) (p : Addr) (o : List FV) (us : List V) (ds : List PD), vs = .ref p :: us ∧ us.length = n ∧ LamX.Tabs Tabl.T H ∧ (∀ a, ext a → So H a) ∧ (∀ a, r a → So H a) ∧ (∀ a, r a → ¬ ext a) ∧
  SlotOk K (hid H (uni ext r)) H (some (.ref p)) r (.ob false c ns o) ∧ RpA K (hid H (uni ext r)) us ds ∧ WrMN ⟨K, E, cl⟩ c ns ext r p H Q (F o ds)
def atSelfN (c : Str) (ns : List Str) (e : En) (k : List FV → RN) : RN := match e[(0 : Nat)]? with
  | some (.ob true c' ns' o') => if c' = c ∧ ns' = ns then k o' else .stuck
  | _ => .stuck
def runMN (N : Nat) (c : Str) (ns : List Str) (f : En → R Fl) (o : List FV) (ds : List PD) : RN := match f (.ob true c ns o :: (ds.map SV.sh ++ List.replicate (N - 1 - ds.length) SV.no)) with
  | .ok (.rn l e) => atSelfN c ns e (.ok l)
  | .ok (.xm x e) => atSelfN c ns e (.exc x)
  | _ => .stuck
section
variable {P : Program} {w : World} {K : PySem.W.Frag} {mg : Str → Option Value} {base : Heap}
theorem def_okMN {x qual : Str} {st : Stmt} {f : Addr} {fd : FuncData} {N : List Str} {s0 : Str} {ps : List Str} {k : Nat} {cl : Str → Addr} {c : Str} {ns : List Str} {body : En → R Fl} (F : Fun K x qual st f fd) (S : FnScope N (s0 :: ps) (defScope st)) (hN : 0 < N.length)
    (hb : ∀ (p : Addr) (cdv : Value) (A : Around) (outer : List Env) (s : Shared) (H : Hp) (E : XK), Room k (A.deeper (PyProof.Rows.envOfC qual (defScope st) s.heap.objs.size f cdv)) →
      ∃ t, PSs (cxOf (L2N.CX P w) P w K mg base N qual (defScope st) f cdv A outer s H E) (defBody st) t ∧ @Es (meI ‹Tabl› p) ⟨K, E, cl⟩ t body) :
    FnOk P w K mg base (L2N.CX P w) (k + 1) f fd (s0 :: ps) (spMN K cl c ns ps.length (runMN N.length c ns body)) := by
  refine okN F S (fun vs H Q E h => ?_) fun cdv A outer s H vs Q E hr h => ?_
  · obtain ⟨ext, r, p, o, us, ds, rfl, hl, _⟩ := h
    simp [hl]
  obtain ⟨ext, r, p, o, us, ds, rfl, hl, tb, hx, hr1, hd, so, hu, wr⟩ := h
  obtain ⟨t, ht, hs⟩ := hb p cdv A outer s H E hr
  refine ⟨t, ht, ?_⟩
  refine hs (hid H r) ext _ _ _ H (RS.startM hN tb hx hr1 hd so hu) _ ?_
  unfold runMN at wr
  generalize body (.ob true c ns o :: (ds.map SV.sh ++ List.replicate (N.length - 1 - ds.length) SV.no)) = z at wr ⊢
  cases z with
  | exc c => exact wr.elim
  | stuck => exact wr.elim
  | ok fl =>
    cases fl with
    | rt d => exact wr.elim
    | bk d => exact wr.elim
    | ct d => exact wr.elim
    | pr i d e => exact wr.elim
    | nx e => exact wr.elim
    | rm d e => exact wr.elim
    | rn l e =>
      dsimp only at wr
      intro q xs reg σ H2 r2 hq hx2
      unfold atSelfN at wr
      split at wr
      · rename_i c' ns' o' ee
        split at wr
        · rename_i hc
          obtain ⟨rfl, rfl⟩ := hc
          obtain ⟨r', m, sub⟩ := RS.endM r2 ee
          exact wr q xs r' H2 m hq (hx2.mono ((Ex.refl H2).hidLess sub).le)
        · exact wr.elim
      · exact wr.elim
    | xm x e =>
      dsimp only at wr
      intro reg σ H2 r2
      unfold atSelfN at wr
      split at wr
      · rename_i c' ns' o' ee
        split at wr
        · rename_i hc
          obtain ⟨rfl, rfl⟩ := hc
          obtain ⟨r', m, sub⟩ := RS.endM r2 ee
          exact wr r' H2 m
        · exact wr.elim
      · exact wr.elim
end
section
variable {C : Cn} {te ta tb : TE} {fa fb : En → R PD} {H0 H : Hp} {ext : AS} {reg : Nat → AS} {en : En} {σ : L2.St} {Q : VK}
/-- return, a new list -/
def sRetL (fa : En → R (List PD)) : En → R Fl := fun en => (fa en).bind fun ds => .ok (.rn ds en)
theorem es_retL {fa : En → R (List PD)} (h : EdF C te fa) : Es C (tRet te) (sRetL fa) := fun H0 ext reg en σ H rs D w => h H0 ext reg en σ H rs _ (by
  unfold sRetL at w
  generalize fa en = x at w ⊢
  cases x with
  | ok ds => exact fun p xs H2 e2 hp hx => w p xs reg σ H2 (rs.ex e2) hp hx
  | exc c => exact WS.exc w rs.le rs.tb
  | stuck => exact w)
def dIfF (ft : En → R Bool) (fa fb : En → R (List PD)) : En → R (List PD) := fun en => (ft en).bind fun b => match b with
  | true => fa en
  | false => fb en
theorem ef_if {t : TT} {ft : En → R Bool} {fa fb : En → R (List PD)} (h : EdT C t ft) (h1 : EdF C ta fa) (h2 : EdF C tb fb) : EdF C (tIf t ta tb) (dIfF ft fa fb) := fun H0 ext reg en σ H rs Q w =>
  h.seq rs (W := WrF C (own ext reg) H Q) w (fun _ q => q) (fun q => q) fun b H2 e2 r2 w2 => by
    cases b with
    | true =>
      show ta σ H2 Q
      exact h1 H0 ext reg en σ H2 r2 Q (WrF.ex w2 e2)
    | false =>
      show tb σ H2 Q
      exact h2 H0 ext reg en σ H2 r2 Q (WrF.ex w2 e2)
theorem RS.spON {K : PySem.W.Frag} {cl : Str → Addr} {E : XK} (r1 : RS K H0 ext reg en σ H) {i n : Nat} {m : Bool} {c : Str} {ns : List Str} {o : List FV} {F : List FV → List PD → RN} {us : List V} {ds : List PD} {p : Addr} (e : en[i]? = some (.ob m c ns o)) (hp : σ[i]? = some (some (.ref p))) (hl : us.length = n) (hu : RpA K (hid H (own ext reg)) us ds)
    (w : match F o ds with
      | .ok l o' => ∀ q xs reg' H2, Ex (hid H (own ext reg)) (hid H2 (own ext reg')) → RS K H0 ext reg' (en.set i (.ob m c ns o')) σ H2 → H2 q = none → RpA K (hid H2 (own ext reg')) xs l → Q (.ref q) (upd H2 q (.lst xs))
      | .exc x o' => ∀ reg' H2, Ex (hid H (own ext reg)) (hid H2 (own ext reg')) → RS K H0 ext reg' (en.set i (.ob m c ns o')) σ H2 → E (.ref (cl x)) none H2
      | .stuck => False) : spMN K cl c ns n F (.ref p :: us) H Q E := by
  obtain ⟨p', dx, vs, L, h1, h2, h3, h4, h5, hlen, h6⟩ := r1.atO e
  have ep : p' = p := by
    rw [hp] at h1
    cases h1
    rfl
  subst ep
  refine ⟨own ext (drp reg i), reg i, p', o, us, ds, rfl, hl, r1.tb, fun a z => r1.so (own_drp z), fun a z => (r1.rg i a z).2, fun a z y => ?_, ?_, by rw [uni_own]; exact hu, ?_⟩
  · rcases y with y | ⟨j, hj, y⟩
    · exact r1.noext z y
    · exact hj (r1.dj j i a y z)
  · rw [uni_own]
    exact ⟨p', dx, vs, L, rfl, (fun z => nomatch z), h3, h4, h5, h6⟩
  · have key : ∀ r' o' H2, MtS K c ns (own ext (drp reg i)) (reg i) p' H r' o' H2 → Ex (hid H (own ext reg)) (hid H2 (own ext (upR reg i r'))) ∧ RS K H0 ext (upR reg i r') (en.set i (.ob m c ns o')) σ H2 := fun r' o' H2 M => by
      have k1 : ∀ a o, ¬ reg i a → H a = some o → isTb o = false → H2 a = some o := fun a o na ha n => M.k.k a o (by rw [hid_at na]; exact ha) n
      refine ⟨r1.chg_up k1 M.r1, r1.chg (lt_of_some e) rfl h1 k1 M.t M.r1 M.r2 ?_⟩
      obtain ⟨q, dx', vs', L', g1, g2, g3, g4, g5, g6⟩ := M.s
      cases g1
      rw [uni_upR] at g6
      exact ⟨p', dx', vs', L', rfl, h2, g3, g4, g5, g6⟩
    generalize F o ds = z at w ⊢
    cases z with
    | ok l o' =>
      intro q xs r' H2 M hq hx
      obtain ⟨a1, a2⟩ := key r' o' H2 M
      exact w q xs _ H2 a1 a2 hq (by rw [uni_upR] at hx; exact hx)
    | exc x o' =>
      intro r' H2 M
      obtain ⟨a1, a2⟩ := key r' o' H2 M
      exact w _ H2 a1 a2
    | stuck => exact w.elim
/-- o.m(..), a new list is told -/
def xMethN (i : Nat) (c : Str) (ns : List Str) (F : List FV → List PD → RN) (fa : En → R (List PD)) : En → R (List PD × En) := fun en => match en[i]? with
  | some (.ob m c' ns' o) => if c' = c ∧ ns' = ns then match fa en with
      | .ok ds => (match F o ds with
        | .ok l o' => .ok (l, en.set i (.ob m c ns o'))
        | .exc x _ => .exc x
        | .stuck => .stuck)
      | _ => .stuck
    else .stuck
  | _ => .stuck
theorem efe_meth {i n : Nat} {c m : Str} {ns : List Str} {F : List FV → List PD → RN} {tA : TA} {fa : En → R (List PD)} (hm : m ∉ ns) (hn : ∀ en ds, fa en = .ok ds → ds.length = n) (ha : EdA C.n tA fa) : EdFE C (tMeth (Tabl.C c) m (spMN C.K C.cl c ns n F) [] C.E (tVar i) tA) (xMethN i c ns F fa) := fun H0 ext reg en σ H rs Q w => by
  unfold xMethN at w
  cases e : en[i]? with
  | none => rw [e] at w; exact w.elim
  | some sv =>
    rw [e] at w
    cases sv with
    | ob m0 c' ns' o =>
      dsimp only at w
      split at w
      case isFalse => exact w.elim
      rename_i hc
      obtain ⟨rfl, rfl⟩ := hc
      obtain ⟨p, dx, vs, L, h1, h2, h3, h4, h5, hl, h6⟩ := rs.atO e
      refine ⟨_, h1, p, dx, vs, rfl, h4, lookup_no h5 hm, ha H0 ext reg en σ H rs _ ?_⟩
      cases ef : fa en with
      | exc x => rw [ef] at w; exact w.elim
      | stuck => rw [ef] at w; exact w.elim
      | ok ds =>
        rw [ef] at w
        dsimp only at w
        intro us H1 e1 hu
        rw [List.append_nil]
        refine (rs.ex e1).spON e h1 (by rw [hu.length]; exact hn en _ ef) hu ?_
        generalize F o ds = z at w ⊢
        cases z with
        | ok l o' => exact fun q xs reg' H2 e2 r2 hq hx => w q xs reg' H2 (e1.toEx.hid.trans e2) r2 hq hx
        | exc x o' => exact fun reg' H2 e2 r2 => w H2 r2.le r2.tb
        | stuck => exact w
    | _ => exact w.elim
/-- e.append(x), e a new list that nobody keeps -/
def sAppN (fe : En → R (List PD × En)) (fa : En → R PD) : En → R Fl := fun en => (fe en).bind fun p => (fa p.2).noexc.bind fun _ => if p.1.length + 1 ≤ szN then .ok (.nx p.2) else .stuck
theorem es_appN {fe : En → R (List PD × En)} (h : EdFE C te fe) (ha : EdS C ta fa) : Es C (tDrop (tBM C.K "list" rAppend te (tCons ta tNil))) (sAppN fe fa) := fun H0 ext reg en σ H rs D w => h H0 ext reg en σ H rs _ (by
  unfold sAppN at w
  generalize fe en = x at w ⊢
  cases x with
  | exc c => exact w
  | stuck => exact w
  | ok p =>
    obtain ⟨ds, en1⟩ := p
    simp only [R.bind_ok] at w
    intro q xs reg1 H1 e1 r1 hq hx
    have r2 := r1.ex (Xt.new (o := .lst xs) hq)
    have hq2 : upd H1 q (.lst xs) q = some (.lst xs) := upd_same
    refine ⟨.inl ⟨rfl, xs, SqL.of hq2⟩, ha H0 ext reg1 en1 σ _ r2 _ ?_⟩
    generalize fa en1 = y at w ⊢
    cases y with
    | exc c => exact w.elim
    | stuck => exact w.elim
    | ok d =>
      simp only [R.noexc_ok, R.bind_ok] at w
      split at w
      · rename_i hl
        intro v H2 e2 hv
        have r3 := r2.ex e2
        refine ⟨q, xs, v, rfl, rfl, e2.l hq2, sz_lt (by rw [hx.length]; omega), w reg1 σ _ ?_⟩
        have nq : ∀ j, ¬ reg1 j q := fun j z => r1.fresh hq (.inr ⟨j, z⟩)
        -- nothing that is kept has this place
        have base := r1
        refine ⟨⟨fun a o h0 n => ?_⟩, tabs_wr r3.tb (e2.l hq2) rfl fun a ha => upd_ne ha, r1.exd, fun j a z => ?_, r1.dj, r1.ro, r1.len, fun j sv z => ?_⟩
        · have h1 := r1.le.k a o h0 n
          have ne : a ≠ q := fun z => by rw [z, hq] at h1; cases h1
          rw [upd_ne ne]
          exact e2.k a o (by rw [upd_ne ne]; exact h1) n
        · obtain ⟨q1, o, q2, q3⟩ := r1.rg j a z
          have ne : a ≠ q := fun z2 => nq j (z2 ▸ z)
          exact ⟨q1, o, by rw [upd_ne ne]; exact e2.k a o (by rw [upd_ne ne]; exact q2) q3, q3⟩
        · obtain ⟨u, h1, h2⟩ := r1.sl j sv z
          refine ⟨u, h1, h2.mono ⟨fun a o ha n => ?_⟩ fun a o _ ha n => ?_⟩
          · obtain ⟨z1, ha⟩ := hid_some ha
            have ne : a ≠ q := fun z => by rw [z, hq] at ha; cases ha
            rw [hid_at z1, upd_ne ne]
            exact e2.k a o (by rw [upd_ne ne]; exact ha) n
          · have ne : a ≠ q := fun z => by rw [z, hq] at ha; cases ha
            rw [upd_ne ne]
            exact e2.k a o (by rw [upd_ne ne]; exact ha) n
      · exact w.elim)
/-! ### an object made among several names -/
theorem RS.alienR {K : PySem.W.Frag} {H2 : Hp} {r' : AS} (r : RS K H0 ext reg en σ H) (X : Xt H H2) (k2 : ∀ a, r' a → Nn H a) (k3 : ∀ a, r' a → So H2 a) : RS K (hid H2 fun a => ∃ i, reg i a) (fun a => ext a ∨ r' a) reg en σ H2 := by
  have q := (r.ex X).lift
  have nr : ∀ i a, r' a → ¬ reg i a := fun i a z y => (So.nn (r.rg i a y).2 (k2 a z))
  refine ⟨q.le, q.tb, fun a h => ?_, q.rg, q.dj, q.ro, q.len, fun j sv e => ?_⟩
  · rcases h with h | h
    · exact q.exd a h
    · obtain ⟨o, h1, h2⟩ := k3 a h
      exact ⟨o, by rw [hid_at fun ⟨i, z⟩ => nr i a h z]; exact h1, h2⟩
  · obtain ⟨v, h1, h2⟩ := r.sl j sv e
    refine ⟨v, h1, h2.mono ⟨fun a u q n => ?_⟩ fun a u z q n => X.k a u q n⟩
    obtain ⟨z, q⟩ := hid_some q
    rw [hid_at fun t => by
      rcases t with (t | t) | t
      · exact z (.inl t)
      · exact So.nn ⟨u, q, n⟩ (k2 a t)
      · exact z (.inr t)]
    exact X.k a u q n
def pM (i : Nat) (c : Str) (ns : List Str) (F : List FV → List PD → RO) (fa : En → R (List PD)) (fr : En → En → R En) : En → En → R En := fun en e => (fa en).bind fun ds => match F [] ds with
  | .ok .none o => if i < e.length then fr en (e.set i (.ob false c ns o)) else .stuck
  | .exc x _ => .exc x
  | _ => .stuck
theorem ep_M {tA ta : TA} {tg : List Nat} {fr : En → En → R En} {i n : Nat} {c : Str} {ns : List Str} {F : List FV → List PD → RO} {fa : En → R (List PD)} (hn : ∀ en ds, fa en = .ok ds → ds.length = n) (h : EdA C tA fa) (hr : EdP C ta tg fr) : EdP C (tCons (tMake (Tabl.C c) (spM C.K C.cl c ns n F) [] C.E tA) ta) (i :: tg) (pM i c ns F fa fr) := fun H0 ext reg en σ H rs H0' ext' reg' en' σ' rb hs Q w => h H0 ext reg en σ H rs _ (by
  unfold pM at w
  cases ef : fa en with
  | exc c => rw [ef] at w; exact w
  | stuck => rw [ef] at w; exact w.elim
  | ok ds =>
    rw [ef] at w
    simp only [R.bind_ok] at w
    intro us H1 e1 hu x dx nx nd ne
    have r1 := rs.ex e1
    have b1 := rb.ex e1
    rw [List.append_nil]
    refine mk_sp r1 (by rw [hu.length]; exact hn en ds ef) hu nx nd ne ?_
    generalize F [] ds = z at w ⊢
    cases z with
    | ok d o =>
      cases d with
      | none =>
        dsimp only at w
        split at w
        · rename_i hi
          intro r' H2 X k2 k3 s
          refine ⟨rfl, hr _ _ reg en σ _ (r1.alienR X k2 k3) H0' ext' _ _ _ (b1.newR (i := i) (r' := r') (v := .ref x) hi rfl (fun a o h t => X.k a o h t) (X.t r1.tb) k2 k3 ?_) (fun a z => ?_) _ (w.push (e1.trans X))⟩
          · obtain ⟨p, dx', vs, L, g1, g2, g3, g4, g5, g6⟩ := s
            refine ⟨p, dx', vs, L, g1, g2, g3, g4, g5, g6.mono ((Ex.refl H2).hidLess fun a z => ?_).le fun _ _ _ z _ => z⟩
            exact (upR_own z).imp (fun z => hs a z) fun z => z
          · rcases upR_own z with z | z
            · rcases hs a z with q | q
              · exact .inl (.inl q)
              · exact .inr q
            · exact .inl (.inr z)
        · exact w.elim
      | _ => exact w.elim
    | exc z o => exact fun H2 e2 => w H2 (e1.trans e2)
    | stuck => exact w.elim)
theorem es_parT2 {tA : TA} {i j : Nat} {f : En → En → R En} (h : EdP C tA [i, j] f) : Es C (tAsg (tTup tA) (gTup C.K 2 (gCons (gName i) (gCons (gName j) gNil)))) (sParM f) := fun H0 ext reg en σ H rs D w => h H0 ext reg en σ H rs H0 ext reg en σ rs (fun _ z => z) _ (by
  unfold sParM at w
  generalize f en en = x at w ⊢
  cases x with
  | ok e =>
    intro vs reg2 H2 e2 hl r2
    match vs, hl with
    | [u, v], _ => exact ⟨by simp [sizeLine], fun p hp => ⟨p, _, rfl, SqT.of upd_same, rfl, u, _, rfl, v, _, rfl, rfl, w _ _ _ (r2.ex (Xt.new hp))⟩⟩
  | exc c => exact WS.exc w rs.le rs.tb
  | stuck => exact w.elim)
end
section
variable {i : Nat} {c : Str} {ns : List Str} {en e : En} {F : List FV → List PD → RN} {G : List FV → List PD → RO} {fr : En → R (List PD)} {fa : En → R PD} {fe : En → R (List PD × En)} {ft : En → R Bool} {fp : En → En → R En} {ga gb : En → R (List PD)}
@[simp] theorem sRetL_ap : sRetL fr en = (fr en).bind fun ds => .ok (.rn ds en) := nrf rfl
@[simp] theorem dIfF_ap : dIfF ft ga gb en = (ft en).bind fun b => match b with
  | true => ga en
  | false => gb en := nrf rfl
@[simp] theorem xMethN_ap : xMethN i c ns F fr en = (match en[i]? with
  | some (.ob m c' ns' o) => if c' = c ∧ ns' = ns then match fr en with
      | .ok ds => (match F o ds with
        | .ok l o' => .ok (l, en.set i (.ob m c ns o'))
        | .exc x _ => .exc x
        | .stuck => .stuck)
      | _ => .stuck
    else .stuck
  | _ => .stuck) := nrf rfl
@[simp] theorem sAppN_ap : sAppN fe fa en = (fe en).bind fun p => (fa p.2).noexc.bind fun _ => if p.1.length + 1 ≤ szN then .ok (.nx p.2) else .stuck := nrf rfl
@[simp] theorem pM_ap : pM i c ns G fr fp en e = (fr en).bind fun ds => match G [] ds with
  | .ok .none o => if i < e.length then fp en (e.set i (.ob false c ns o)) else .stuck
  | .exc x _ => .exc x
  | _ => .stuck := nrf rfl
end
end Dn

/-! the greatest of a list; what a list has not. -/
namespace Dn
open PySem L2
variable [Tabl]
def maxI : Int → List Int → Int
  | m, [] => m
  | m, x :: r => maxI (if x > m then x else m) r
theorem maxI_spec : ∀ (r : List Int) (m : Int), (maxI m r = m ∨ maxI m r ∈ r) ∧ m ≤ maxI m r ∧ ∀ y ∈ r, y ≤ maxI m r
  | [], m => ⟨.inl rfl, Int.le_refl m, fun _ h => nomatch h⟩
  | x :: r, m => by
    obtain ⟨h1, h2, h3⟩ := maxI_spec r (if x > m then x else m)
    refine ⟨?_, ?_, fun y hy => ?_⟩
    · show maxI (if x > m then x else m) r = m ∨ maxI (if x > m then x else m) r ∈ x :: r
      rcases h1 with h1 | h1
      · rw [h1]
        split
        · exact .inr List.mem_cons_self
        · exact .inl rfl
      · exact .inr (List.mem_cons_of_mem _ h1)
    · show m ≤ maxI (if x > m then x else m) r
      split at h2 <;> rename_i h <;> simp only [h, if_true, if_false] <;> omega
    · show y ≤ maxI (if x > m then x else m) r
      rcases List.mem_cons.mp hy with rfl | hy
      · split at h2 <;> rename_i h <;> simp only [h, if_true, if_false] <;> omega
      · exact h3 y hy
def maxD : List PD → R PD
  | [.list ds] => match asInts ds with
    | some (m :: r) => .ok (.int (maxI m r))
    | _ => .stuck
  | _ => .stuck
theorem kx_max {X : Cx} (K : PySem.W.Frag) (h : X.K = K) (hc : X.calm = true) : CallR X (.builtin "max") (rMax K) := by subst h; exact cr_max hc
section
variable {C : Cn}
theorem n_max : OpN C (rMax C.K) maxD := fun Y Z H vs xs Q hyz hz hx q => by
  unfold maxD at q
  split at q
  · split at q
    · rename_i m r e
      obtain ⟨v, rfl, h⟩ := hx.one
      obtain ⟨p, ys, rfl, hp, hr⟩ := h.lst hyz
      rw [hr.asInts e] at hp
      refine ⟨p, m :: r, rfl, SqL.of hp, Nat.succ_pos _, fun k hk hle => ?_⟩
      obtain ⟨h1, h2, h3⟩ := maxI_spec r m
      have a1 : maxI m r ≤ k := hle _ (by
        rcases h1 with h1 | h1
        · rw [h1]; exact List.mem_cons_self
        · exact List.mem_cons_of_mem _ h1)
      have a2 : k ≤ maxI m r := by
        rcases List.mem_cons.mp hk with rfl | hk
        · exact h2
        · exact h3 k hk
      rw [show k = maxI m r by omega]
      exact q _ H (Xt.refl H) (.int _)
    · exact q.elim
  · exact q.elim
end
@[simp] theorem maxD_l {ds : List PD} : maxD [.list ds] = (match asInts ds with
    | some (m :: r) => .ok (.int (maxI m r))
    | _ => .stuck) := nrf rfl
/-! ### x in xs, where nothing is equal to it -/
def rNoIn (K : PySem.W.Frag) : R2 := fun x y H Q => ∃ d p xs ds, Dp K H x d ∧ y = .ref p ∧ SqL K H p xs ∧ DpAll K H xs ds ∧ SeqAt.shaped d = true ∧ d.depth ≤ 63 ∧ (∀ e ∈ ds, SeqAt.shaped e = true ∧ PyData.eqv e d = false) ∧ Q (.bl false) H
theorem readsAll_mem {h : Heap} : ∀ {us : List Value} {ds : List PyData} {as : List Addr}, ReadsAll h us ds as → ∀ u ∈ us, ∃ d ∈ ds, ∃ bs, Reads h u d bs
  | _, _, _, .nil, u, hu => nomatch hu
  | _, _, _, .cons h1 h2, u, hu => by
    rcases List.mem_cons.mp hu with rfl | hu
    · exact ⟨_, List.mem_cons_self, _, h1⟩
    · obtain ⟨d, hd, bs, hr⟩ := readsAll_mem h2 u hu
      exact ⟨d, List.mem_cons_of_mem _ hd, bs, hr⟩
theorem kx_noIn {X : Cx} (K : PySem.W.Frag) (h : X.K = K) (hu : X.A.units + 64 < cLine) : OpR X (compareOp .In) (rNoIn K) := by
  subst h
  intro pins s σ H x y v u Q I rx ry q
  obtain ⟨d, p, xs, ds, hd, rfl, hq, hds, sd, d63, he, q⟩ := q
  obtain rfl : u = Value.ref p := ry
  obtain ⟨its, r, pl, hz⟩ := I.list hq
  obtain ⟨as, r1⟩ := Dp.reads I d x v hd rx
  obtain ⟨bs, r2⟩ := Dp.readsAll I ds xs its hds r
  refine SeqAt.in_listAt (fun _ => false) pl.isList (fun w hw => ?_) ⟨.bl _, H, I, rfl, ?_⟩
  · obtain ⟨e, e1, cs, hr⟩ := readsAll_mem r2 w (by simpa using hw)
    obtain ⟨se, ne⟩ := he e e1
    have := SeqAt.eqAt_reads e d X.A.in1 s w v cs as hr r1 (SeqAt.canLay_of_shaped se) (SeqAt.canLay_of_shaped sd) (by show X.A.units + 1 + min e.depth d.depth < cLine; omega)
    rw [ne] at this
    exact this
  · rw [show its.toArray.any (fun _ => false) = false by simp]
    exact q
def noInD (x y : PD) : R PD := match y with
  | .list ds => if (SeqAt.shaped x && decide (x.depth ≤ 63) && ds.all fun e => SeqAt.shaped e && !PyData.eqv e x) = true then .ok (.bool false) else .stuck
  | _ => .stuck
theorem o_noIn {C : Cn} : Op2 C (rNoIn C.K) noInD := fun Y Z H v w x y Q hyz hz hx hy q => by
  unfold noInD at q
  split at q
  · rename_i ds
    split at q
    · rename_i hs
      rw [Bool.and_eq_true, Bool.and_eq_true] at hs
      obtain ⟨p, ys, rfl, hp, hr⟩ := hy.lst hyz
      have h2 : ∀ e ∈ ds, SeqAt.shaped e = true ∧ PyData.eqv e x = false := fun e he => by
        have := List.all_eq_true.mp hs.2 e he
        rw [Bool.and_eq_true] at this
        exact ⟨this.1, by simpa using this.2⟩
      have lay : ∀ l : List PD, (∀ e ∈ l, SeqAt.shaped e = true) → PyData.canLayAll0 l = true := fun l => by
        induction l with
        | nil => exact fun _ => rfl
        | cons a r ih =>
          intro h
          simp only [PyData.canLayAll0, Bool.and_eq_true]
          exact ⟨SeqAt.canLay_of_shaped (h a List.mem_cons_self), ih fun e he => h e (List.mem_cons_of_mem _ he)⟩
      exact ⟨x, p, ys, ds, (hx.rps hyz).dp (SeqAt.canLay_of_shaped hs.1.1), rfl, SqL.of hp, (hr.mono hid_ex.le).dp (lay ds fun e he => (h2 e he).1), hs.1.1, of_decide_eq_true hs.1.2, h2, q _ H (Xt.refl H) (.bl false)⟩
    · exact q.elim
  · exact q.elim
@[simp] theorem noInD_l {x : PD} {ds : List PD} : noInD x (.list ds) = if (SeqAt.shaped x && decide (x.depth ≤ 63) && ds.all fun e => SeqAt.shaped e && !PyData.eqv e x) = true then .ok (.bool false) else .stuck := nrf rfl
end Dn

/-! replace of a sign of a text in a written text. -/
namespace Dn
open PySem L2 PySem.Spec PyProof.Rows
section
variable {X : Cx}
def tReplIx (x z : Str) (ta tb : TE) : TE := fun σ H Q => ta σ H fun v H1 => tb σ H1 fun u H2 => ∃ y i c, v = .str y ∧ u = .int i ∧ y.length ≤ sizeLine ∧ atI y.cps.toList i = some c ∧ ((⟨#[c]⟩ : Str) == z) = false ∧ x.length + (x.length + 1) * z.length ≤ 16777216 ∧ Q (.str (Txt.replace x ⟨#[c]⟩ z)) H2
theorem pe_replIx {a b : Expr} {ta tb : TE} {x z : Str} {j0 j1 : Nat} {c0 c1 apos pos spos : Pos} (ha : PE X a ta) (hb : PE X b tb) (hs : PlainIx b)
    (hbase : attributeBase (.Constant (.str x) j0 c0) "replace" X.env (eval (.Constant (.str x) j0 c0) X.env) = eval (.Constant (.str x) j0 c0) X.env := by rfl) (hst : starEach [.Subscript a b spos, .Constant (.str z) j1 c1] X.env = [(false, eval (.Subscript a b spos) X.env), (false, eval (.Constant (.str z) j1 c1) X.env)] := by rfl) (hline : (apos.endLine == pos.line) = true := by rfl) :
    PE X (.Call (.Attribute (.Constant (.str x) j0 c0) "replace" apos) [.Subscript a b spos, .Constant (.str z) j1 c1] [] pos) (tReplIx x z ta tb) := by
  refine ⟨fun pins s σ H Q I h => ?_⟩
  refine PySem.Call_method2 hbase hst hline (Calls.Constant_str ?_)
  refine ⟨"str", _, F.plainAttrs_str, F.slot_str_replace, F.type_str_replace, typeIs_str _ _ _, (fun _ e => nomatch e), Calls.callWith_builtin rfl (Calls.evalArgs_plain (Calls.spliced_cons ?_))⟩
  have I0 : Inv X pins σ H { s with toks := s.toks + 1 } := I.tok _
  refine Subscript_ (wpAny_mono (PySem.wpAny_toks (ha.run pins _ σ H _ I0 h)) (fun v s1 q => ?_) fun _ _ z => z.2)
  obtain ⟨k1, v', H1, I1, r1, q1⟩ := q
  refine wpAny_mono (PySem.wpAny_toks (hb.run pins s1 σ H1 _ I1 q1)) (fun u s2 q => ?_) fun _ _ z => z.2
  obtain ⟨k2, u', H2, I2, r2, y, i, c, rfl, rfl, hy, he, hyz, hb', q2⟩ := q
  obtain ⟨t, rfl⟩ := r1
  obtain ⟨t', rfl⟩ := r2
  obtain ⟨j, h1, h2, h3, h4, h5⟩ := atI_get he
  have hl : y.cps.toList.length = y.length := by simp [Str.length]
  rw [hl] at h1 h4 h5
  have hn := line63
  have k1' : s.toks + 1 ≤ s1.toks := k1
  refine tail_any (typeIs_str s2 y t) slot_str_getitem.lookup (getItem_str (c := c) (by
    have e1 : decide (i < -(2 ^ 63 : Int)) = false := decide_eq_false (by omega)
    have e2 : decide (i ≥ 2 ^ 63) = false := decide_eq_false (by omega)
    rw [e1, e2, Bool.or_false]) (by rw [h1]; simpa using h2) ?_) (hs _ _)
  refine Calls.spliced_cons (Calls.Constant_str (Calls.spliced_nil ?_))
  exact PySem.SC.replace (show s2.toks ≠ 0 by omega) (show s2.toks + 1 ≠ 0 by omega) (show s2.toks ≠ s2.toks + 1 by omega) hyz hb' fun t' k => ⟨.str (Txt.replace x ⟨#[c]⟩ z), H2, I2.tok k, ⟨t', rfl⟩, q2⟩
end
variable [Tabl]
/-- 'x'.replace(a[b], 'z') -/
def replIxD (x z : Str) (v u : PD) : R PD := match v with
  | .str y => (match u with
    | .int i => (match atI y.cps.toList i with
      | some c => if y.length ≤ szN ∧ ((⟨#[c]⟩ : Str) == z) = false ∧ x.length + (x.length + 1) * z.length ≤ 16777216 then .ok (.str (Txt.replace x ⟨#[c]⟩ z)) else .stuck
      | none => .stuck)
    | _ => .stuck)
  | _ => .stuck
theorem ed_replIx {C : Cn} {ta tb : TE} {fa fb : En → R PD} {x z : Str} (ha : EdL C ta fa) (hb : EdL C tb fb) : EdS C (tReplIx x z ta tb) (d2 (replIxD x z) fa fb) := fun H0 ext reg en σ H rs Q w =>
  ha.seq rs (W := WrS C (own ext reg) H Q) w (fun _ q => q) (fun q => q) fun v v' H2 e2 r2 h2 w2 =>
    hb.seq r2 (W := WrS C (own ext reg) H2 Q) (w2.ex e2) (fun _ q => q) (fun q => q) fun u u' H3 e3 r3 h3 w3 => by
      have w4 := WrS.ex w3 e3
      unfold replIxD at w4
      split at w4
      · split at w4
        · split at w4
          · rename_i c ec
            split at w4
            · rename_i hc
              exact ⟨_, _, c, h2.str, h3.int, sz_of hc.1, ec, hc.2.1, hc.2.2, w4 _ H3 (Xt.refl H3) (.str _)⟩
            · exact w4.elim
          · exact w4.elim
        · exact w4.elim
      · exact w4.elim
end Dn

/-! zip of two texts. -/
namespace Dn
open PySem L2 PySem.Spec PyProof.Rows
/-- two texts side by side, their signs in new pairs -/
def ItZs (x y : Str) : It := ⟨fun i _ => i < x.cps.size ∧ i < y.cps.size, fun i H v H' => ∃ T c d, v = .ref T ∧ H T = none ∧ x.cps[i]? = some c ∧ y.cps[i]? = some d ∧ H' = upd H T (.tup [.str ⟨#[c]⟩, .str ⟨#[d]⟩]), fun i _ => i ≤ x.cps.size ∧ i ≤ y.cps.size ∧ (i = x.cps.size ∨ i = y.cps.size)⟩
/-- the five cells of such a walk -/
structure StZs (x y : Str) (t u : Tok) (N : Nat) (i : Nat) (h : Heap) : Prop where
  z : IsZip h (N + 4) (N + 2) (N + 3) .none
  ti : IsTupOf2 h (N + 2) (.ref N) (.ref (N + 1))
  to : ∃ p q, IsTupOf2 h (N + 3) p q
  a : h.IsStrIter N (strIterType x) x t i
  b : h.IsStrIter (N + 1) (strIterType y) y u i
abbrev fpZ (N : Nat) : List Addr := [N + 4, N + 2, N + 3, N, N + 1]
theorem five {N : Nat} {c : Addr} (h : c ∈ fpZ N) : c = N + 4 ∨ c = N + 2 ∨ c = N + 3 ∨ c = N ∨ c = N + 1 := by simpa using h
theorem turn_zipS {P : Program} {w : World} {K : PySem.W.Frag} {elts : List Expr} {kk : Nat} {tpos : Pos} (x y : Str) (t u : Tok) (N : Nat) :
    Turn P w K (.Tuple elts kk tpos) (ItZs x y) (fpZ N) (N + 4) (StZs x y t u N) where
  mem := List.mem_cons_self ..
  obj := fun i h st c hc => by
    obtain ⟨hz, hTI, ⟨p, q, hTO⟩, ⟨o1, e1, _, d1⟩, ⟨o2, e2, _, d2⟩⟩ := st
    rcases five hc with r | r | r | r | r
    · exact r ▸ ⟨_, hz, fun v q => nomatch q⟩
    · exact r ▸ ⟨_, hTI, fun v q => nomatch q⟩
    · exact r ▸ ⟨_, hTO, fun v q => nomatch q⟩
    · exact r ▸ ⟨o1, e1, fun v q => by rw [d1] at q; cases q⟩
    · exact r ▸ ⟨o2, e2, fun v q => by rw [d2] at q; cases q⟩
  keep := fun i h h' st k => by
    obtain ⟨hz, hTI, ⟨p, q, hTO⟩, ⟨o1, e1, r1⟩, ⟨o2, e2, r2⟩⟩ := st
    exact ⟨k _ (by simp) _ hz, k _ (by simp) _ hTI, ⟨p, q, k _ (by simp) _ hTO⟩, ⟨o1, k _ (by simp) _ e1, r1⟩, ⟨o2, k _ (by simp) _ e2, r2⟩⟩
  item := by
    intro X hP hw hK hc i pins s σ H E I hf st hg
    subst hP hw hK
    obtain ⟨hz, hTI, ⟨p, q, hTO⟩, h1, h2⟩ := st
    have S : ZipSep2 (N + 4) (N + 2) (N + 3) N (N + 1) [N] [N + 1] := zip_sep2 (fp1 := []) (fp2 := []) (fun _ h => nomatch h) fun _ h => nomatch h
    have hzl : N + 4 < s.heap.objs.size := Heap.lt_size hz
    refine wpAny_pyNext_zipD2_item S (Draws.text (A := X.A.in1) (I.ok.hd hc) N x t) (Draws.text (A := X.A.in1) (I.ok.hd hc) (N + 1) y u) hz hTI hTO h1 h2 hg.1 hg.2 fun v1 v2 h' tk p1 p2 z' to' a' b' hT hsz hk => ?_
    obtain ⟨c, tc, hcx, rfl⟩ := p1
    obtain ⟨d, td, hdx, rfl⟩ := p2
    refine ⟨_, rfl, wpAny_letOwnedTupleGo_zip (s := { s with heap := h', toks := tk }) z' fun h'' z'' sb => ?_⟩
    have ob : ObjOk X.prog X.w (upd H s.heap.objs.size (.tup [.str ⟨#[c]⟩, .str ⟨#[d]⟩])) h'' s.heap.objs.size (.tup [.str ⟨#[c]⟩, .str ⟨#[d]⟩]) :=
      ⟨by show 2 ≤ sizeLine; decide, [.str ⟨#[c]⟩ tc, .str ⟨#[d]⟩ td], .cons ⟨_, rfl⟩ (.cons ⟨_, rfl⟩ .nil), ⟨_, (sb.2 _ (Nat.ne_of_gt hzl)).trans hT, rfl, _, rfl⟩⟩
    have I1 : Inv X pins σ (upd H s.heap.objs.size (.tup [.str ⟨#[c]⟩, .str ⟨#[d]⟩])) { s with heap := h'', toks := tk } :=
      I.turnedNew (ch := fpZ N) (fun e o ne l => (sb.2 e fun r => ne (by simp [r])).trans (hk e o (fun r => ne (by simp [r])) (fun r => ne (by simp [r])) (fun r => ne (by simp [r])) (fun r => ne (by simp [r])) l)) hf (Nat.le_refl _) ob
    refine ⟨.ref s.heap.objs.size, _, I1, rfl, ⟨_, c, d, rfl, I.hok.fresh (Nat.le_refl _), hcx, hdx, rfl⟩, ⟨z'', (sb.2 _ S.TIz).trans (hk _ _ S.TIz S.TITO S.TIi1 S.TIi2 hTI), ⟨_, _, (sb.2 _ S.TOz).trans to'⟩, ?_, ?_⟩, fun e he => ?_⟩
    · obtain ⟨o, l, r⟩ := a'
      exact ⟨o, (sb.2 N S.zi1.symm).trans l, r⟩
    · obtain ⟨o, l, r⟩ := b'
      exact ⟨o, (sb.2 _ S.zi2.symm).trans l, r⟩
    · have lt : e < s.heap.objs.size := by
        have hzl' : (N + 4 : Nat) < s.heap.objs.size := hzl
        rcases five he with r | r | r | r | r <;> subst r <;> show (_ : Nat) < _ <;> omega
      rw [upd_ne (Nat.ne_of_lt lt)]
      exact (hf e he).1
  done := by
    intro X hP hw hK hc i pins s σ H E I hf st hg
    subst hP hw hK
    obtain ⟨hz, hTI, ⟨p, q, hTO⟩, h1, h2⟩ := st
    have S : ZipSep2 (N + 4) (N + 2) (N + 3) N (N + 1) [N] [N + 1] := zip_sep2 (fp1 := []) (fp2 := []) (fun _ h => nomatch h) fun _ h => nomatch h
    exact wpAny_pyNext_zipD2_end S (Draws.text (A := X.A.in1) (I.ok.hd hc) N x t) (Draws.text (A := X.A.in1) (I.ok.hd hc) (N + 1) y u) hz hTI hTO h1 h2 hg.1 hg.2.1 hg.2.2 fun h' tk hk =>
      ⟨rfl, I.turnedL (t' := tk) (ch := fpZ N) (fun e o ne l => hk e o (fun r => ne (by simp [r])) (fun r => ne (by simp [r])) (fun r => ne (by simp [r])) (fun r => ne (by simp [r])) l) hf⟩
  self := fun A i s Q E st h => wpAny_pyIter_zip st.z h
def iZipS (ta : TA) : TI := fun σ H R => ta σ H fun vs H1 => ∃ x y : Str, vs = [.str x, .str y] ∧ R (ItZs x y) H1
theorem pi_zipS {X : Cx} {e e2 : Expr} {ta : TA} {p pos tpos : Pos} {elts : List Expr} {kk : Nat} (hg : Gl X "zip") (hm : X.mg "zip" = none) (ha : PA X [e, e2] ta)
    (hs : starEach [e, e2] X.env = (false, eval e X.env) :: starEach [e2] X.env := by rfl) (hpl : (backTo pos (starEach [e2] X.env)).any (·.1) = false := by rfl) :
    PI X (.Tuple elts kk tpos) (.Call (.Name "zip" p) [e, e2] [] pos) (iZipS ta) := by
  refine ⟨fun pins s σ H R I h => Call_ (ld_blt I hg hm boot_zip (PyProof.Rows.callWith_type1 (thn (ha.run pos pins s σ H _ I h) fun us s1 ⟨vs, H1, I1, r1, x, y, ex, q⟩ => ?_) hs hpl))⟩
  subst ex
  cases r1 with
  | cons r rr =>
    cases rr with
    | cons r' rr =>
      cases rr
      obtain ⟨t, rfl⟩ := r
      obtain ⟨u, rfl⟩ := r'
      refine zip_begins2 (begins_text x t) (begins_text y u) trivial trivial fun h' hz hTI hTO g1 g2 hsz hk => wpAny_pyIter_zip hz ?_
      have I2 : Inv X pins σ H1 { s1 with heap := h' } := I1.kept (t' := s1.toks) hk
      refine ⟨_, fpZ s1.heap.objs.size, _, _, H1, rfl, I2, turn_zipS x y t u s1.heap.objs.size, ⟨hz, hTI, ⟨_, _, hTO⟩, ⟨_, g1, rfl, rfl⟩, ⟨_, g2, rfl, rfl⟩⟩, fun c hc => ?_, q⟩
      have hle : s1.heap.objs.size ≤ c := by
        rcases five hc with r | r | r | r | r <;> subst r <;> show (_ : Nat) ≤ _ <;> omega
      exact I1.fpOk hle (I1.hok.fresh hle)
def zipT : List PD → R (List PD)
  | [.str x, .str y] => .ok (zipD (signL x) (signL y))
  | _ => .stuck
theorem signL_get {x : Str} {i : Nat} {d : PD} (h : (signL x)[i]? = some d) : ∃ c, x.cps[i]? = some c ∧ d = .str ⟨#[c]⟩ := by
  unfold signL at h
  rw [List.getElem?_map] at h
  cases ec : x.cps.toList[i]? with
  | none => rw [ec] at h; cases h
  | some c =>
    rw [ec] at h
    rw [Array.getElem?_toList] at ec
    exact ⟨c, ec, (Option.some.inj h).symm⟩
theorem signL_len (x : Str) : (signL x).length = x.cps.size := by unfold signL; simp
section
variable [Tabl] {C : Cn}
theorem ei_zipS {ta : TA} {fa : En → R (List PD)} (h : EdB C ta fa) : EdI C (iZipS ta) (dItA zipT fa) := fun H0 ext reg en σ H rs Q w =>
  h.seq rs (W := WrI C (own ext reg) H Q) w (fun _ q => q) (fun q => q) fun x v H2 e2 r2 h2 w2 => by
    unfold zipT at w2
    split at w2
    · rename_i x y
      obtain ⟨v, u, rfl, hv, hu⟩ := h2.two
      obtain rfl := hv.str
      obtain rfl := hu.str
      refine ⟨x, y, rfl, w2 _ H2 e2 fun Z H' e' hz i => ⟨fun d hd => ?_, fun hl => ?_⟩⟩
      · obtain ⟨a, b, ha, hb, rfl⟩ := zipD_get hd
        obtain ⟨c, hc, rfl⟩ := signL_get ha
        obtain ⟨d, hdy, rfl⟩ := signL_get hb
        refine ⟨⟨(Array.getElem?_eq_some_iff.mp hc).1, (Array.getElem?_eq_some_iff.mp hdy).1⟩, ?_⟩
        rintro z H'' ⟨T, c', d', rfl, nT, hc', hd', rfl⟩
        obtain rfl := Option.some.inj (hc.symm.trans hc')
        obtain rfl := Option.some.inj (hdy.symm.trans hd')
        exact ⟨Xt.new nT, Rp.newT hz nT (.cons (.str _) (.cons (.str _) .nil))⟩
      · unfold zipD at hl
        rw [List.length_map, List.length_zip, signL_len, signL_len] at hl
        show i ≤ _ ∧ i ≤ _ ∧ (i = _ ∨ i = _)
        omega
    · exact w2.elim
end
end Dn

/-! data by their order: less, least, greatest, sorted, of any data that are alike. -/
namespace Dn
open PySem L2
variable [Tabl]
abbrev lessD (x y : PD) : Bool := PySem.W.dataLt x y
mutual
/-- of the same shape all through -/
def sal : PD → PD → Bool
  | .none, .none => true
  | .bool _, .bool _ => true
  | .int _, .int _ => true
  | .str _, .str _ => true
  | .list xs, .list ys => salA xs ys
  | .tuple xs, .tuple ys => salA xs ys
  | _, _ => false
def salA : List PD → List PD → Bool
  | x :: xs, y :: ys => sal x y && salA xs ys
  | [], [] => true
  | _, _ => false
end
mutual
theorem sal_symm : ∀ (x y : PD), sal x y = true → sal y x = true
  | .none, y, h => by cases y <;> simp_all [sal]
  | .bool _, y, h => by cases y <;> simp_all [sal]
  | .int _, y, h => by cases y <;> simp_all [sal]
  | .str _, y, h => by cases y <;> simp_all [sal]
  | .list xs, y, h => by
    cases y with
    | list ys =>
      simp only [sal] at h ⊢
      exact salA_symm xs ys h
    | _ => simp [sal] at h
  | .tuple xs, y, h => by
    cases y with
    | tuple ys =>
      simp only [sal] at h ⊢
      exact salA_symm xs ys h
    | _ => simp [sal] at h
  | .dict _, y, h => by cases y <;> simp [sal] at h
theorem salA_symm : ∀ (xs ys : List PD), salA xs ys = true → salA ys xs = true
  | [], [], _ => rfl
  | [], _ :: _, h => by simp [salA] at h
  | _ :: _, [], h => by simp [salA] at h
  | x :: xs, y :: ys, h => by
    simp only [salA, Bool.and_eq_true] at h ⊢
    exact ⟨sal_symm x y h.1, salA_symm xs ys h.2⟩
end
mutual
theorem sal_trans : ∀ (x y z : PD), sal x y = true → sal y z = true → PySem.W.alike x z = true
  | .none, y, z, h, g => by cases y <;> cases z <;> simp_all [sal, PySem.W.alike]
  | .bool _, y, z, h, g => by cases y <;> cases z <;> simp_all [sal, PySem.W.alike]
  | .int _, y, z, h, g => by cases y <;> cases z <;> simp_all [sal, PySem.W.alike]
  | .str _, y, z, h, g => by cases y <;> cases z <;> simp_all [sal, PySem.W.alike]
  | .list xs, y, z, h, g => by
    cases y with
    | list ys =>
      cases z with
      | list zs =>
        simp only [sal] at h g
        simp only [PySem.W.alike]
        exact salA_trans xs ys zs h g
      | _ => simp [sal] at g
    | _ => simp [sal] at h
  | .tuple xs, y, z, h, g => by
    cases y with
    | tuple ys =>
      cases z with
      | tuple zs =>
        simp only [sal] at h g
        simp only [PySem.W.alike]
        exact salA_trans xs ys zs h g
      | _ => simp [sal] at g
    | _ => simp [sal] at h
  | .dict _, y, z, h, g => by cases y <;> simp [sal] at h
theorem salA_trans : ∀ (xs ys zs : List PD), salA xs ys = true → salA ys zs = true → PySem.W.alikeAll xs zs = true
  | [], _, _, _, _ => by simp [PySem.W.alikeAll]
  | _ :: _, [], _, h, _ => by simp [salA] at h
  | _ :: _, _ :: _, [], _, g => by simp [salA] at g
  | x :: xs, y :: ys, z :: zs, h, g => by
    simp only [salA, Bool.and_eq_true] at h g
    simp only [PySem.W.alikeAll, Bool.and_eq_true]
    exact ⟨sal_trans x y z h.1 g.1, salA_trans xs ys zs h.2 g.2⟩
end
/-- flat enough, no None -/
def ordOne (x : PD) : Bool := SeqAt.shaped x && decide (x.depth ≤ 60) && (match x with | .none => false | _ => true)
/-- of one shape, flat enough, no None -/
def ordOk (ds : List PD) : Bool := ds.all ordOne && (match ds with | [] => true | d :: _ => ds.all fun y => sal d y)
theorem ordOk_get {ds : List PD} (h : ordOk ds = true) : ∀ x ∈ ds, SeqAt.shaped x = true ∧ x.depth ≤ 60 ∧ x ≠ .none ∧ ∀ y ∈ ds, PySem.W.alike x y = true := fun x hx => by
  unfold ordOk at h
  rw [Bool.and_eq_true] at h
  have a := List.all_eq_true.mp h.1 x hx
  unfold ordOne at a
  rw [Bool.and_eq_true, Bool.and_eq_true] at a
  refine ⟨a.1.1, of_decide_eq_true a.1.2, fun e => ?_, fun y hy => ?_⟩
  · rw [e] at a
    exact absurd a.2 (by simp)
  · cases ds with
    | nil => cases hx
    | cons d r =>
      have k := List.all_eq_true.mp h.2
      exact sal_trans x d y (sal_symm _ _ (k x hx)) (k y hy)
theorem ordOk_lay : ∀ {ds : List PD}, (∀ x ∈ ds, SeqAt.shaped x = true) → PyData.canLayAll0 ds = true
  | [], _ => rfl
  | x :: r, h => by
    simp only [PyData.canLayAll0, Bool.and_eq_true]
    exact ⟨SeqAt.canLay_of_shaped (h x List.mem_cons_self), ordOk_lay fun e he => h e (List.mem_cons_of_mem _ he)⟩
theorem depthAll_le : ∀ {ds : List PD}, (∀ x ∈ ds, x.depth ≤ 60) → PyData.depthAll ds ≤ 60
  | [], _ => by simp [PyData.depthAll]
  | x :: r, h => by
    have a := h x List.mem_cons_self
    have b := depthAll_le (ds := r) fun e he => h e (List.mem_cons_of_mem _ he)
    simp only [PyData.depthAll]
    omega
theorem ordOk_alikeAll {ds : List PD} (h : ordOk ds = true) : PySem.W.AlikeAll ds := ⟨fun x hx y hy => (ordOk_get h x hx).2.2.2 y hy, fun x hx => (ordOk_get h x hx).2.2.1⟩
/-! ### x < y -/
def ltA (x y : PD) : R PD := match x, y with
  | .int i, .int j => .ok (.bool (decide (i < j)))
  | _, _ => if ordOk [x, y] = true then .ok (.bool (lessD x y)) else .stuck
def rLtD (K : PySem.W.Frag) : R2 := fun x y H Q => ∃ d e, Dp K H x d ∧ Dp K H y e ∧ ordOk [d, e] = true ∧ Q (.bl (lessD d e)) H
def rLtA (K : PySem.W.Frag) : R2 := rOr (rI0 fun i j => .bl (decide (i < j))) (rLtD K)
theorem op_ltD {X : Cx} (hu : X.A.units + 64 < cLine) : OpR X (compareOp .Lt) (rLtD X.K) := by
  intro pins s σ H x y v u Q I rx ry q
  obtain ⟨d, e, hd, he, ok, q⟩ := q
  obtain ⟨as, r1⟩ := Dp.reads I d x v hd rx
  obtain ⟨bs, r2⟩ := Dp.reads I e y u he ry
  obtain ⟨o1, o2, o3, o4⟩ := ordOk_get ok d List.mem_cons_self
  refine PySem.W.lt_data r1 r2 (o4 e (List.mem_cons_of_mem _ List.mem_cons_self)) o3 (by omega) ⟨.bl _, H, I, rfl, q⟩
theorem kx_ltA {X : Cx} (K : PySem.W.Frag) (h : X.K = K) (hu : X.A.units + 64 < cLine) : OpR X (compareOp .Lt) (rLtA K) := by
  subst h
  exact opOr op_lt (op_ltD hu)
theorem o_ltA {C : Cn} : Op2 C (rLtA C.K) ltA := fun Y Z H v w x y Q hyz hz hx hy q => by
  unfold ltA at q
  split at q
  · rename_i i j
    exact .inl ⟨i, j, hx.int, hy.int, q _ H (Xt.refl H) (.bl _)⟩
  · split at q
    · rename_i ok
      obtain ⟨o1, _⟩ := ordOk_get ok x List.mem_cons_self
      obtain ⟨o2, _⟩ := ordOk_get ok y (List.mem_cons_of_mem _ List.mem_cons_self)
      exact .inr ⟨x, y, (hx.rps hyz).dp (SeqAt.canLay_of_shaped o1), (hy.rps hyz).dp (SeqAt.canLay_of_shaped o2), ok, q _ H (Xt.refl H) (.bl _)⟩
    · exact q.elim
/-! ### the least of a list -/
def minA : List PD → R PD
  | [.list (d :: ds)] => if ordOk (d :: ds) = true then .ok (PySem.W.minD d ds) else .stuck
  | _ => .stuck
def rMinB (K : PySem.W.Frag) : List V → Hp → VK → Prop := fun vs H Q => ∃ a xs d ds, vs = [.ref a] ∧ SqL K H a xs ∧ DpAll K H xs (d :: ds) ∧ ordOk (d :: ds) = true ∧
  ∀ (i : Nat) v, xs[i]? = some v → (d :: ds)[i]? = some (PySem.W.minD d ds) → Q v H
theorem vals_at : ∀ {xs : List V} {us : List Value}, Vals xs us → ∀ {i : Nat} {u : Value}, us[i]? = some u → ∃ v, xs[i]? = some v ∧ RelV v u
  | _, _, .nil, _, _, h => by simp at h
  | _, _, .cons h t, 0, u, e => by simp at e; subst e; exact ⟨_, rfl, h⟩
  | _, _, .cons h t, i + 1, u, e => by
    obtain ⟨v, h1, h2⟩ := vals_at t (i := i) (by simpa using e)
    exact ⟨v, by simpa using h1, h2⟩
theorem minD_mem (d : PD) (ds : List PD) : PySem.W.minD d ds ∈ d :: ds := by
  unfold PySem.W.minD
  induction ds generalizing d with
  | nil => exact List.mem_cons_self
  | cons e r ih =>
    rw [List.foldl_cons]
    split
    · exact List.mem_cons_of_mem _ (ih e)
    · rcases List.mem_cons.mp (ih d) with h | h
      · rw [h]; exact List.mem_cons_self
      · exact List.mem_cons_of_mem _ (List.mem_cons_of_mem _ h)
theorem cr_minB {X : Cx} (hc : X.calm = true) (hu : X.A.units + 64 < cLine) : CallR X (.builtin "min") (rMinB X.K) := by
  intro pins s σ H vs us Q I r h
  obtain ⟨a, xs, d, ds, rfl, hs, hd, ok, q⟩ := h
  obtain ⟨its, rv, hl, hz⟩ := I.list hs
  obtain ⟨u, rfl, ru⟩ := vals1 r
  obtain rfl : u = Value.ref a := ru
  obtain ⟨as, ra⟩ := Dp.readsAll I (d :: ds) xs its hd rv
  refine PySem.W.min_list_data (I.ok.hd hc) hl.isList (by simpa using ra) (ordOk_alikeAll ok) (by have := depthAll_le (ds := d :: ds) fun x hx => (ordOk_get ok x hx).2.1; omega) fun i v h' tk bs hi hr kp => ?_
  have hi' : its[i]? = some v := by simpa using hi
  obtain ⟨v', hv', rv'⟩ := vals_at rv hi'
  obtain ⟨cs, r1, r2, r3, _⟩ := PySem.W.readsAll_at ra i v hi'
  have e := PySem.W.alike_unique _ _ v _ _ ((ordOk_alikeAll ok).1 _ r3 _ (minD_mem d ds)) (PyProof.Rows.Reads.keeps kp r1) hr
  refine ⟨v', H, I.kept (t' := tk) kp, rv', q i v' hv' ?_⟩
  rw [← e, List.getD_eq_getElem?_getD, List.getElem?_eq_getElem r2]
  rfl
theorem kx_minA {X : Cx} (K : PySem.W.Frag) (h : X.K = K) (hc : X.calm = true) (hu : X.A.units + 64 < cLine) : CallR X (.builtin "min") (rMinB K) := by
  subst h
  exact cr_minB hc hu
theorem n_minA {C : Cn} : OpN C (rMinB C.K) minA := fun Y Z H vs xs Q hyz hz hx q => by
  unfold minA at q
  split at q
  · split at q
    · rename_i d ds ok
      obtain ⟨v, rfl, h⟩ := hx.one
      obtain ⟨p, ys, rfl, hp, hr⟩ := h.lst hyz
      refine ⟨p, ys, d, ds, rfl, SqL.of hp, (hr.mono hid_ex.le).dp (ordOk_lay fun x hx => (ordOk_get ok x hx).1), ok, fun i v hv hd => ?_⟩
      obtain ⟨d', e1, e2⟩ := hr.getV hv
      rw [hd] at e1
      cases e1
      exact q _ H (Xt.refl H) e2
    · exact q.elim
  · exact q.elim
/-! ### sorted -/
abbrev leAll : PD → PD → Bool := PySem.W.dataLe false id
/-- tuples that are not empty, or no tuples -/
def srtOk (ds : List PD) : Bool := (ds.all fun d => match d with | .tuple (_ :: _) => true | _ => false) || ds.all fun d => match d with | .tuple _ => false | _ => true
theorem srtOk_get {ds : List PD} (h : srtOk ds = true) (n : ∀ d ∈ ds, d ≠ .none) : PySem.W.Sortable ds := by
  unfold srtOk at h
  rw [Bool.or_eq_true] at h
  rcases h with h | h
  · refine .inl fun d hd => ?_
    have a := List.all_eq_true.mp h d hd
    split at a
    · exact ⟨_, _, rfl⟩
    · cases a
  · refine .inr fun d hd => ⟨n d hd, fun xs e => ?_⟩
    have a := List.all_eq_true.mp h d hd
    rw [e] at a
    cases a
def sortA : List PD → R (List PD)
  | [.list ds] => if (ordOk ds && srtOk ds && decide (ds.length ≤ szN)) = true then .ok (ds.mergeSort leAll) else .stuck
  | _ => .stuck
def rSortB (K : PySem.W.Frag) : List V → Hp → VK → Prop := fun vs H Q => ∃ a xs ds, vs = [.ref a] ∧ SqL K H a xs ∧ DpAll K H xs ds ∧ ordOk ds = true ∧ srtOk ds = true ∧
  ∀ p, H p = none → Q (.ref p) (upd H p (.lst (((xs.zip ds).mergeSort (PySem.W.dataLe false (·.2))).map (·.1))))
theorem each_zip {K : PySem.W.Frag} {H : Hp} : ∀ {us : List Value} {xs : List V} {ds : List PD}, Vals xs us → DpAll K H xs ds → PySem.W.EachIs (fun u (b : V × PD) => RelV b.1 u ∧ Dp K H b.1 b.2) us (xs.zip ds)
  | _, _, _, .nil, .nil => .nil
  | _, _, _, .cons h t, .cons g r => .cons ⟨h, g⟩ (each_zip t r)
theorem dpAll_length {K : PySem.W.Frag} {H : Hp} : ∀ {xs : List V} {ds : List PD}, DpAll K H xs ds → xs.length = ds.length
  | _, _, .nil => rfl
  | _, _, .cons _ r => by simp [dpAll_length r]
theorem each_vals {P : V × PD → Prop} : ∀ {us : List Value} {bs : List (V × PD)}, PySem.W.EachIs (fun u (b : V × PD) => RelV b.1 u ∧ P b) us bs → Vals (bs.map (·.1)) us
  | _, _, .nil => .nil
  | _, _, .cons h t => .cons h.1 (each_vals t)
theorem cr_sortB {X : Cx} (hu : X.A.units + 64 < cLine) : CallR X (.builtin "sorted") (rSortB X.K) := by
  intro pins s σ H vs us Q I r h
  obtain ⟨a, xs, ds, rfl, hs, hd, ok, so, q⟩ := h
  obtain ⟨its, rv, hl, hz⟩ := I.list hs
  obtain ⟨u, rfl, ru⟩ := vals1 r
  obtain rfl : u = Value.ref a := ru
  have hlen := dpAll_length hd
  have m2 : (xs.zip ds).map (·.2) = ds := List.map_snd_zip (by rw [hlen]; exact Nat.le_refl _)
  have ez := each_zip (K := X.K) (H := H) rv hd
  refine PySem.W.sorted_data (R := fun u (b : V × PD) => RelV b.1 u ∧ Dp X.K H b.1 b.2) (enc := (·.2)) (bs := xs.zip ds) hl.isList ez (ez.mono fun u b h => Dp.reads I b.2 b.1 u h.2 h.1) (by rw [m2]; exact fun x hx y hy => (ordOk_get ok x hx).2.2.2 y hy)
    (by rw [m2]; exact srtOk_get so fun d hd => (ordOk_get ok d hd).2.2.1) (by rw [List.length_zip, hlen, Nat.min_self, ← hlen]; exact hz) (fun b hb => ?_) fun out ho he => ?_
  · have := (ordOk_get ok b.2 (by rw [← m2]; exact List.mem_map.mpr ⟨b, hb, rfl⟩)).2.1
    omega
  · have hn : H (s.heap.objs.size + 1) = none := I.hok.fresh (Nat.le_succ _)
    obtain ⟨n, hat⟩ := PyProof.Rows.sortedAll_at s.heap its out.toArray
    refine ⟨.ref (s.heap.objs.size + 1), _, I.laid (t' := s.toks) (fun b o e => PyProof.Rows.sortedAll_old e) (Nat.le_succ _) (show ObjOk X.prog X.w _ _ _ (.lst (((xs.zip ds).mergeSort (PySem.W.dataLe false (·.2))).map (·.1))) from ⟨?_, out, n, each_vals he, hat⟩), rfl, q _ hn⟩
    rw [List.length_map, ← he.length, ho, List.length_zip, hlen, Nat.min_self, ← hlen]
    exact hz
theorem kx_sortB {X : Cx} (K : PySem.W.Frag) (h : X.K = K) (hu : X.A.units + 64 < cLine) : CallR X (.builtin "sorted") (rSortB K) := by
  subst h
  exact cr_sortB hu
theorem rpa_of_zip {K : PySem.W.Frag} {H : Hp} : ∀ {xs : List V} {ds : List PD}, RpA K H xs ds → ∀ b ∈ xs.zip ds, Rp K H b.1 b.2
  | _, _, .nil, b, h => by simp at h
  | _, _, .cons h t, b, hb => by
    rcases List.mem_cons.mp hb with rfl | hb
    · exact h
    · exact rpa_of_zip t b hb
theorem rpa_maps {K : PySem.W.Frag} {H : Hp} : ∀ {bs : List (V × PD)}, (∀ b ∈ bs, Rp K H b.1 b.2) → RpA K H (bs.map (·.1)) (bs.map (·.2))
  | [], _ => .nil
  | b :: r, h => .cons (h b List.mem_cons_self) (rpa_maps fun c hc => h c (List.mem_cons_of_mem _ hc))
theorem f_sortA {C : Cn} : OpF C (rSortB C.K) sortA := fun Y Z H vs xs Q hyz hz hx q => by
  unfold sortA at q
  split at q
  · split at q
    · rename_i ds ok
      rw [Bool.and_eq_true, Bool.and_eq_true] at ok
      obtain ⟨v, rfl, h⟩ := hx.one
      obtain ⟨p, ys, rfl, hp, hr⟩ := h.lst hyz
      refine ⟨p, ys, ds, rfl, SqL.of hp, (hr.mono hid_ex.le).dp (ordOk_lay fun x hx => (ordOk_get ok.1.1 x hx).1), ok.1.1, ok.1.2, fun l hl => ?_⟩
      have m2 : (ys.zip ds).map (·.2) = ds := List.map_snd_zip (by rw [hr.length]; exact Nat.le_refl _)
      have e : ((ys.zip ds).mergeSort (PySem.W.dataLe false (·.2))).map (·.2) = ds.mergeSort leAll := by
        rw [List.map_mergeSort (l := ys.zip ds) (f := fun x => x.2) (r := PySem.W.dataLe false (·.2)) (s := leAll) (fun a _ b _ => rfl), m2]
      refine q l _ H (Xt.refl H) hl ?_
      rw [← e]
      exact rpa_maps fun b hb => rpa_of_zip hr b ((List.mergeSort_perm _ _).mem_iff.mp hb)
    · exact q.elim
  · exact q.elim
end Dn

/-! dicts by pairs of truths. -/
namespace Dn
open PySem L2 PySem.Spec PyProof.Rows
/-! ### the object -/
def dumO (q : Str) : Obj := { cls := .none, data := .fields #[.none, .str q 0] }
theorem rep_get {n a : Nat} {x o : Obj} (h : ({ objs := Array.replicate n x } : Heap).get? a = some o) : o = x ∨ False := by
  unfold Heap.get? at h
  simp only [Array.getElem?_replicate] at h
  by_cases e : a < n
  · simp only [e, if_true] at h
    split at h
    · cases h
    · exact .inl (Option.some.inj h).symm
  · simp only [e, if_false] at h
    cases h
theorem rep_at {n a : Nat} {q : Str} (h : a < n) : ({ objs := Array.replicate n (dumO q) } : Heap).get? a = some (dumO q) := by
  unfold Heap.get?
  simp only [Array.getElem?_replicate, h, if_true]
  rfl
theorem bdO_ne (p : Addr) (xs : List ((Bool × Bool) × Addr × V)) (c : Addr) (q : Str) : BdO p xs ≠ LamX.CodeO c q := fun e => by
  unfold BdO LamX.CodeO at e
  have e1 := HO.ext.inj e
  have h1 : ∃ (oc : Obj) (vs : Array Value) (t : Tok), ({ objs := Array.replicate (c + 1) (dumO q) } : Heap).get? c = some oc ∧ oc.data = .fields vs ∧ vs[1]? = some (.str q t) := ⟨dumO q, _, 0, rep_at (Nat.lt_succ_self c), rfl, rfl⟩
  have h2 := (congrFun e1 ({ objs := Array.replicate (c + 1) (dumO q) } : Heap)).mpr h1
  obtain ⟨_, _, _, ys, _, o, es, ep, g, _, gd, _⟩ := h2
  rcases rep_get g with z | z
  · rw [z] at gd
    cases gd
  · exact z
theorem isLD_bd (p : Addr) (xs : List ((Bool × Bool) × Addr × V)) : isLD (BdO p xs) = true := by
  have h := bdO_ne p xs
  unfold BdO at h ⊢
  unfold isLD
  exact @decide_eq_true _ (_) h
def cvB (y : (Bool × Bool) × Addr × Value) : List Bool × Addr × Value := ([y.1.1, y.1.2], y.2.1, y.2.2)
abbrev PrB : List ((Bool × Bool) × Addr × V) → List ((Bool × Bool) × Addr × Value) → Prop := Paired fun (x : (Bool × Bool) × Addr × V) (y : (Bool × Bool) × Addr × Value) => x.1 = y.1 ∧ x.2.1 = y.2.1 ∧ RelV x.2.2 y.2.2
def KeysB (K : PySem.W.Frag) (H : Hp) (xs : List ((Bool × Bool) × Addr × V)) : Prop := ∀ x ∈ xs, SqT K H x.2.1 [.bl x.1.1, .bl x.1.2]
def lkB (xs : List ((Bool × Bool) × Addr × V)) (k : Bool × Bool) : Option V := (xs.find? fun x => decide (x.1 = k)).map (·.2.2)
def putB (xs : List ((Bool × Bool) × Addr × V)) (k : Bool × Bool) (q : Addr) (v : V) : List ((Bool × Bool) × Addr × V) :=
  if (lkB xs k).isSome then xs.map (fun x => if x.1 = k then (x.1, x.2.1, v) else x) else xs ++ [(k, q, v)]
section
variable {X : Cx} {pins : List (Addr × Obj)} {σ : L2.St} {H : Hp} {s : Shared} {p : Addr} {xs : List ((Bool × Bool) × Addr × V)} {ys : List ((Bool × Bool) × Addr × Value)}
theorem prB_keys : ∀ {xs : List ((Bool × Bool) × Addr × V)} {ys : List ((Bool × Bool) × Addr × Value)}, PrB xs ys → ys.map (·.1) = xs.map (·.1)
  | _, _, .nil => rfl
  | _, _, .cons h t => by rw [List.map_cons, List.map_cons, prB_keys t, h.1]
theorem prB_mem : ∀ {xs : List ((Bool × Bool) × Addr × V)} {ys : List ((Bool × Bool) × Addr × Value)}, PrB xs ys → ∀ y ∈ ys, ∃ x ∈ xs, x.1 = y.1 ∧ x.2.1 = y.2.1
  | _, _, .nil, _, h => nomatch h
  | _, _, .cons h t, y, hy => by
    rcases List.mem_cons.mp hy with rfl | hy
    · exact ⟨_, List.mem_cons_self, h.1, h.2.1⟩
    · obtain ⟨x, h1, h2⟩ := prB_mem t y hy
      exact ⟨x, List.mem_cons_of_mem _ h1, h2⟩
theorem tkB {q : Addr} {a b : Bool} (I : Inv X pins σ H s) (h : SqT X.K H q [.bl a, .bl b]) : (tupleKind (PpSet.boolK X.prog X.w)).is s.heap [a, b] q := by
  obtain ⟨its, rv, ⟨o, ho, hc, n, hd⟩, _⟩ := I.tuple h
  obtain ⟨u1, u2, rfl, r1, r2⟩ := vals2 rv
  cases r1
  cases r2
  exact ⟨o, _, n, ho, hc, hd, .cons (PpSet.boolK_is _ _ a) (.cons (PpSet.boolK_is _ _ b) .nil)⟩
theorem bd_rd (I : Inv X pins σ H s) (e : Rd H p (BdO p xs)) (hk : KeysB X.K H xs) : (p == sysModules) = false ∧ xs.length ≤ sizeLine ∧ (xs.map (·.1)).Nodup ∧ ∃ ys, PrB xs ys ∧ s.heap.DictOfH (tupleKind (PpSet.boolK X.prog X.w)) p (ys.map cvB) := by
  have hob : ObjOk X.prog X.w H s.heap p (BdO p xs) := e.ok I.hok
  obtain ⟨⟨h1, h2, h3, ys, h4, o, es, ep, g1, g2, g3, g4⟩, _⟩ := hob
  refine ⟨h1, h2, h3, ys, h4, o, es, ep, g1, g2, g3, by rw [g4, List.map_map]; rfl, fun x hx => ?_, ?_⟩
  · obtain ⟨y, hy, rfl⟩ := List.mem_map.mp hx
    obtain ⟨x, hx, e1, e2⟩ := prB_mem h4 y hy
    have := tkB I (hk x hx)
    rw [e1, e2] at this
    exact this
  · rw [List.map_map]
    rw [← prB_keys h4] at h3
    have : (ys.map ((fun x => x.1) ∘ cvB)) = (ys.map (·.1)).map fun k : Bool × Bool => [k.1, k.2] := by rw [List.map_map]; rfl
    rw [this]
    refine List.pairwise_map.mpr (List.Pairwise.imp (fun {a b} h z => h ?_) h3)
    cases a; cases b
    simp at z
    simp [z]
theorem lkB_rel (k : Bool × Bool) : ∀ {xs : List ((Bool × Bool) × Addr × V)} {ys : List ((Bool × Bool) × Addr × Value)}, PrB xs ys → RelO (lkB xs k) ((atKey (ys.map cvB) [k.1, k.2]).map (·.2))
  | _, _, .nil => True.intro
  | _, _, .cons (a := x) (b := y) (l₁ := xs) (l₂ := ys) h t => by
    have ih := lkB_rel k t
    unfold lkB atKey at ih ⊢
    rw [List.map_cons, List.find?_cons, List.find?_cons]
    by_cases e : x.1 = k
    · have e2 : (cvB y).1 = [k.1, k.2] := by rw [← e, h.1]; rfl
      simp only [e, e2, decide_true, Option.map_some]
      exact h.2.2
    · have e2 : ¬ (cvB y).1 = [k.1, k.2] := fun z => e (by
        rw [h.1]
        obtain ⟨⟨a, b⟩, q⟩ := y
        obtain ⟨c, d⟩ := k
        have z' : [a, b] = [c, d] := z
        simp at z'
        simp [z'])
      simp only [e, e2, decide_false]
      exact ih
theorem lkB_some (k : Bool × Bool) {v : V} (r : PrB xs ys) (h : lkB xs k = some v) : ∃ z, atKey (ys.map cvB) [k.1, k.2] = some z ∧ RelV v z.2 := by
  have q := lkB_rel k r
  rw [h] at q
  cases e : atKey (ys.map cvB) [k.1, k.2] with
  | none => rw [e] at q; exact q.elim
  | some z => rw [e] at q; exact ⟨z, rfl, q⟩
theorem lkB_isSome (k : Bool × Bool) (r : PrB xs ys) : (atKey (ys.map cvB) [k.1, k.2]).isSome = (lkB xs k).isSome := by
  have q := lkB_rel k r
  cases e : atKey (ys.map cvB) [k.1, k.2] with
  | none =>
    rw [e] at q
    cases e2 : lkB xs k with
    | none => rfl
    | some v => rw [e2] at q; exact q.elim
  | some z =>
    rw [e] at q
    cases e2 : lkB xs k with
    | none => rw [e2] at q; exact q.elim
    | some v => rfl
def putBV (ys : List ((Bool × Bool) × Addr × Value)) (b : Bool) (k : Bool × Bool) (q : Addr) (v : Value) : List ((Bool × Bool) × Addr × Value) :=
  if b then ys.map (fun x => if x.1 = k then (x.1, x.2.1, v) else x) else ys ++ [(k, q, v)]
theorem stored_cv (ys : List ((Bool × Bool) × Addr × Value)) (k : Bool × Bool) (q : Addr) (v : Value) : storedH (ys.map cvB) [k.1, k.2] q v = (putBV ys (atKey (ys.map cvB) [k.1, k.2]).isSome k q v).map cvB := by
  unfold storedH putBV
  by_cases e : (atKey (ys.map cvB) [k.1, k.2]).isSome = true
  · rw [if_pos e, if_pos e, List.map_map, List.map_map]
    refine List.map_congr_left fun y _ => ?_
    show putAt [k.1, k.2] v (cvB y) = cvB (if y.1 = k then (y.1, y.2.1, v) else y)
    unfold putAt
    by_cases z : y.1 = k
    · rw [if_pos z, if_pos (by rw [← z]; rfl)]
      rfl
    · rw [if_neg z, if_neg fun z' => z (by
        obtain ⟨⟨a, b⟩, q⟩ := y
        obtain ⟨c, d⟩ := k
        have z2 : [a, b] = [c, d] := z'
        simp at z2
        simp [z2])]
  · rw [if_neg e, if_neg e, List.map_append]
    rfl
theorem putB_rel {k : Bool × Bool} {q : Addr} {v : V} {u : Value} (r : PrB xs ys) (rv : RelV v u) : PrB (putB xs k q v) (putBV ys (lkB xs k).isSome k q u) := by
  unfold putB putBV
  by_cases e : (lkB xs k).isSome = true
  · rw [if_pos e, if_pos e]
    clear e
    induction r with
    | nil => exact .nil
    | @cons x y xs ys h t ih =>
      rw [List.map_cons, List.map_cons]
      refine .cons ?_ ih
      by_cases z : x.1 = k
      · rw [if_pos z, if_pos (by rw [← h.1]; exact z)]
        exact ⟨h.1, h.2.1, rv⟩
      · rw [if_neg z, if_neg (by rw [← h.1]; exact z)]
        exact h
  · rw [if_neg e, if_neg e]
    clear e
    induction r with
    | nil => exact .cons ⟨rfl, rfl, rv⟩ .nil
    | cons h t ih => exact .cons h ih
theorem putB_len (xs : List ((Bool × Bool) × Addr × V)) (k : Bool × Bool) (q : Addr) (v : V) : (putB xs k q v).length ≤ xs.length + 1 := by
  unfold putB
  split
  · rw [List.length_map]; omega
  · simp
theorem ext_bd {P : Program} {w : World} {H' : Hp} {h' : Heap} {o : Obj} {es : Array DictEntry} {ep : Nat} (h1 : (p == sysModules) = false) (h2 : xs.length ≤ sizeLine) (h3 : (xs.map (·.1)).Nodup) (h4 : PrB xs ys) (g1 : h'.get? p = some o) (g2 : o.ExactDict) (g3 : o.data = .dict es ep) (g4 : es.toList = ys.map entB) : ObjOk P w H' h' p (BdO p xs) :=
  ⟨⟨h1, h2, h3, ys, h4, o, es, ep, g1, g2, g3, g4⟩, ⟨o, g1⟩, fun h1 h2 ⟨a, b, c, ys, d, o, es, ep, e, f⟩ st => ⟨a, b, c, ys, d, o, es, ep, st _ e, f⟩⟩
theorem nodup_of {ys : List ((Bool × Bool) × Addr × Value)} (h : ((ys.map cvB).map (·.1)).Nodup) : (ys.map (·.1)).Nodup := by
  rw [List.map_map] at h
  have e : (ys.map ((fun x => x.1) ∘ cvB)) = (ys.map (·.1)).map fun k : Bool × Bool => [k.1, k.2] := by rw [List.map_map]; rfl
  rw [e] at h
  exact List.Pairwise.imp (fun {a b} h z => h (by rw [z])) (List.pairwise_map.mp h)
theorem bd_of_dict {P : Program} {w : World} {H' : Hp} {h' : Heap} (h1 : (p == sysModules) = false) (h2 : xs.length ≤ sizeLine) (h4 : PrB xs ys) (dd : h'.DictOfH (tupleKind (PpSet.boolK P w)) p (ys.map cvB)) : ObjOk P w H' h' p (BdO p xs) := by
  obtain ⟨o, es, ep, g1, g2, g3, g4, _, g5⟩ := dd
  refine ext_bd h1 h2 ?_ h4 g1 g2 g3 (by rw [g4, List.map_map]; rfl)
  rw [← prB_keys h4]
  exact nodup_of g5
end
/-! ### rules -/
section
variable {X : Cx} {o i e value : Expr} {pos pos' : Pos} {td ty tv : TE}
def rInB (K : PySem.W.Frag) : R2 := fun x y H Q => ∃ q p xs, ∃ k : Bool × Bool, x = .ref q ∧ y = .ref p ∧ Rd H p (BdO p xs) ∧ KeysB K H xs ∧ SqT K H q [.bl k.1, .bl k.2] ∧ Q (.bl (lkB xs k).isSome) H
def rNotInB (K : PySem.W.Frag) : R2 := fun x y H Q => ∃ q p xs, ∃ k : Bool × Bool, x = .ref q ∧ y = .ref p ∧ Rd H p (BdO p xs) ∧ KeysB K H xs ∧ SqT K H q [.bl k.1, .bl k.2] ∧ Q (.bl (!(lkB xs k).isSome)) H
theorem kx_inB (K : PySem.W.Frag) (h : X.K = K) (hu : X.A.units + 64 < cLine) : OpR X (compareOp .In) (rInB K) := by
  subst h
  intro pins s σ H x y v u Q I rx ry q
  obtain ⟨q, p, xs, k, rfl, rfl, hp, hk, hq, z⟩ := q
  cases rx
  cases ry
  obtain ⟨h1, h2, h3, ys, h4, dd⟩ := bd_rd I hp hk
  refine wpAny_in_heap (tupleKind_room_in1 (by omega)) (tkB I hq) h1 dd ?_
  rw [lkB_isSome k h4]
  exact ⟨.bl _, H, I.tok _, rfl, z⟩
theorem kx_notinB (K : PySem.W.Frag) (h : X.K = K) (hu : X.A.units + 64 < cLine) : OpR X (compareOp .NotIn) (rNotInB K) := by
  subst h
  intro pins s σ H x y v u Q I rx ry q
  obtain ⟨q, p, xs, k, rfl, rfl, hp, hk, hq, z⟩ := q
  cases rx
  cases ry
  obtain ⟨h1, h2, h3, ys, h4, dd⟩ := bd_rd I hp hk
  refine wpAny_notIn_heap (tupleKind_room_in1 (by omega)) (tkB I hq) h1 dd ?_
  rw [lkB_isSome k h4]
  exact ⟨.bl _, H, I.tok _, rfl, z⟩
def tBGet (K : PySem.W.Frag) (td ty : TE) : TE := fun σ H Q => td σ H fun x H1 => ty σ H1 fun y H2 => ∃ q p xs v, ∃ k : Bool × Bool, x = .ref p ∧ y = .ref q ∧ Rd H2 p (BdO p xs) ∧ KeysB K H2 xs ∧ SqT K H2 q [.bl k.1, .bl k.2] ∧ lkB xs k = some v ∧ Q v H2
theorem kpe_bget (K : PySem.W.Frag) (h : X.K = K) (hu : X.A.units + 64 < cLine) (ho : PE X o td) (hi : PE X i ty) (hs : NoSl i) : PE X (.Subscript o i pos) (tBGet K td ty) := by
  subst h
  refine ⟨fun pins s σ H Q I h => ?_⟩
  refine subD_of PySem.F.slot_dict_getitem.lookup hs (thn (ho.run pins s σ H _ I h) fun u s1 ⟨x, H1, I1, rx, q1⟩ => thn (hi.run pins s1 σ H1 _ I1 q1) fun iv s2 ⟨y, H2, I2, ry, q, p, xs, v, k, ex, ey, hp, hk, hq, l, z⟩ => ?_)
  subst ex
  subst ey
  obtain rfl : u = Value.ref p := rx
  obtain rfl : iv = Value.ref q := ry
  obtain ⟨h1, h2, h3, ys, h4, dd⟩ := bd_rd I2 hp hk
  obtain ⟨w', hw, rw'⟩ := lkB_some k h4 l
  exact ⟨dd.typeIs, wpAny_getItem_heap (tupleKind_room_in1 (by omega)) (tkB I2 hq) dd hw ⟨v, H2, I2.tok _, rw', z⟩⟩
def sBPutT (K : PySem.W.Frag) (td ty tv : TE) : TS := fun D σ H => tv σ H fun v H1 => td σ H1 fun x H2 => ty σ H2 fun y H3 => ∃ q p xs, ∃ k : Bool × Bool, x = .ref p ∧ y = .ref q ∧ H3 p = some (BdO p xs) ∧ KeysB K H3 xs ∧ SqT K H3 q [.bl k.1, .bl k.2] ∧ xs.length < sizeLine ∧ D.nx σ (upd H3 p (BdO p (putB xs k q v)))
theorem kps_bput (K : PySem.W.Frag) (h : X.K = K) (hu : X.A.units + 64 < cLine) (ho : PE X o td) (hi : PE X i ty) (hv : PE X value tv) (hs : swapsWith value (some (.Subscript o i pos')) pos.line X.env = pure false) :
    PS X (.Assign [.Subscript o i pos'] value pos) (sBPutT K td ty tv) := by
  subst h
  refine ⟨fun pins s σ H D I h => ?_⟩
  refine wpAny_Assign_Subscript (thn (hv.run pins s σ H _ I h) fun r s1 ⟨v, H1, I1, rv, q1⟩ => thn (ho.run pins s1 σ H1 _ I1 q1) fun u s2 ⟨x, H2, I2, rx, q2⟩ => thn (hi.run pins s2 σ H2 _ I2 q2) fun iv s3 ⟨y, H3, I3, ry, q, p, xs, k, ex, ey, hp, hk, hq, hl, z⟩ => ?_) hs
  subst ex
  subst ey
  obtain rfl : u = Value.ref p := rx
  obtain rfl : iv = Value.ref q := ry
  obtain ⟨h1, h2, h3, ys, h4, dd⟩ := bd_rd I3 (.inl hp) hk
  refine wpAny_setItem_heap (hsz := by rw [List.length_map, ← Paired.length h4]; exact h2) (tupleKind_room_in1 (by omega)) (tkB I3 hq) dd fun h' dd' hsb => ⟨σ, _, ?_, z⟩
  rw [stored_cv, lkB_isSome k h4] at dd'
  have he : ∃ q, h'.get? p = some q := let ⟨q, _, _, hq, _⟩ := dd'; ⟨q, hq⟩
  refine d_write I3 (by rw [hp]; exact True.intro) hsb he (bd_of_dict h1 (Nat.le_trans (putB_len xs k q v) (by omega)) (putB_rel h4 rv) dd')
def tBNew : TE := fun _ H Q => ∀ p, H p = none → Q (.ref p) (upd H p (BdO p []))
theorem bd_empty {P : Program} {w : World} {H : Hp} (h : Heap) (hb : sysModules < h.objs.size) : ObjOk P w H (h.push { cls := .type "dict", data := .dict #[] }) h.objs.size (BdO h.objs.size []) :=
  ext_bd (ys := []) (beq_eq_false_iff_ne.mpr (Ne.symm (Nat.ne_of_lt hb))) (Nat.zero_le _) List.nodup_nil .nil (Heap.get?_push_size _ rfl) ⟨rfl, rfl, rfl⟩ rfl rfl
theorem pe_bnew : PE X (.Dict [] [] pos) tBNew := ⟨fun pins s σ H Q I h =>
  wpAny_Dict_empty ⟨.ref s.heap.objs.size, _, I.laid (a := s.heap.objs.size) (o := BdO s.heap.objs.size []) (t' := s.toks) (fun _ _ q => Heap.get?_push_of_some _ q) (Nat.le_refl _) (bd_empty s.heap I.big), rfl, h _ (I.hok.fresh (Nat.le_refl _))⟩⟩
def tBDisp (K : PySem.W.Frag) (tk tv : TE) : TE := fun σ H Q => ∀ p, H p = none → tk σ (upd H p (BdO p [])) fun x H1 => tv σ H1 fun y H2 => ∃ q, ∃ k : Bool × Bool, x = .ref q ∧ SqT K H2 q [.bl k.1, .bl k.2] ∧ H2 p = some (BdO p []) ∧ Q (.ref p) (upd H2 p (BdO p [(k, q, y)]))
theorem kpe_bdisp (K : PySem.W.Frag) (h : X.K = K) (hu : X.A.units + 64 < cLine) (hk : PE X i ty) (hv : PE X value tv) : PE X (.Dict [some i] [value] pos) (tBDisp K ty tv) := by
  subst h
  refine ⟨fun pins s σ H Q I q => ?_⟩
  have hn := I.hok.fresh (Nat.le_refl s.heap.objs.size)
  have I1 := I.laid (a := s.heap.objs.size) (o := BdO s.heap.objs.size []) (h' := s.heap.push { cls := .type "dict", data := .dict #[] }) (t' := s.toks) (fun _ _ q => Heap.get?_push_of_some _ q) (Nat.le_refl _) (bd_empty s.heap I.big)
  refine wpAny_Dict_any rfl rfl (by simp) (show 1 ≤ 15 by decide) (pairTrees_cons_walk (thn (hk.run pins _ σ _ _ I1 (q _ hn)) fun u s1 ⟨x, H1, I1, rx, q1⟩ => thn (hv.run pins s1 σ H1 _ I1 q1) fun w2 s2 ⟨y, H2, I2, ry, qq, k, ex, hq, hp, z⟩ => pairTrees_nil_walk ?_))
  subst ex
  obtain rfl : u = Value.ref qq := rx
  obtain ⟨h1, h2, h3, ys, h4, dd⟩ := bd_rd I2 (.inl hp) (fun _ h => nomatch h)
  cases h4
  unfold storeAll
  refine wpAny_storeAllH (knd := tupleKind (PpSet.boolK X.prog X.w)) (show (tupleKind (PpSet.boolK X.prog X.w)).room X.A from (show X.A.units < cLine by omega)) [(.ref qq, w2)] [([k.1, k.2], qq, w2)] [] s2 _ ⟨rfl, rfl, tkB I2 hq, True.intro⟩ dd (by rw [sizeLine_eq]; simp) fun h' tk dd' hs => ?_
  have he : ∃ q, h'.get? s.heap.objs.size = some q := let ⟨q, _, _, hq, _⟩ := dd'; ⟨q, hq⟩
  exact ⟨.ref s.heap.objs.size, _, d_write I2 (by rw [hp]; exact True.intro) hs he (bd_of_dict (ys := [(k, qq, w2)]) h1 (by rw [sizeLine_eq]; simp) (.cons ⟨rfl, rfl, ry⟩ .nil) dd'), rfl, z⟩
end
end Dn

/-! dicts by pairs of truths: what a slot's dict comes to. -/
namespace Dn
open PySem L2
/-! ### the walk over one that never changes -/
def Itkb (K : PySem.W.Frag) (d : Addr) (o : Obj) (xs : List ((Bool × Bool) × Addr × V)) : It :=
  ⟨fun i H => H d = some (.frz o (BdO d xs)) ∧ i < xs.length, fun i H x H' => H' = H ∧ ∃ y, xs[i]? = some y ∧ x = .ref y.2.1, fun i H => H d = some (.frz o (BdO d xs)) ∧ xs.length ≤ i⟩
theorem frzB {X : Cx} {pins : List (Addr × Obj)} {σ : L2.St} {H : Hp} {s : Shared} {d : Addr} {o : Obj} {xs : List ((Bool × Bool) × Addr × V)} (I : Inv X pins σ H s) (h : H d = some (.frz o (BdO d xs))) :
    (d == sysModules) = false ∧ s.heap.get? d = some o ∧ o.ExactDict ∧ ∃ (es : Array DictEntry) (ep : Nat), o.data = .dict es ep ∧ es.size = xs.length ∧ ∀ (i : Nat) (y : (Bool × Bool) × Addr × V), xs[i]? = some y → ∃ en : DictEntry, es[i]? = some en ∧ en.key = .ref y.2.1 := by
  have hob : ObjOk X.prog X.w H s.heap d (.frz o (BdO d xs)) := I.hok d _ h
  obtain ⟨hd, ⟨h1, h2, h3, ys, h4, o', es, ep, g1, g2, g3, g4⟩, _⟩ := hob
  rw [hd] at g1
  cases g1
  have hl : es.size = ys.length := by rw [← Array.length_toList, g4, List.length_map]
  refine ⟨h1, hd, g2, es, ep, g3, by rw [hl]; exact (Paired.length h4).symm, fun i y e => ?_⟩
  obtain ⟨b, hb, e1, e2, _⟩ := paired_get h4 e
  refine ⟨entB b, ?_, by show Value.ref b.2.1 = _; rw [e2]⟩
  rw [← Array.getElem?_toList, g4, List.getElem?_map, hb]
  rfl
theorem turn_keysB {P : Program} {w : World} {K : PySem.W.Frag} {tg : Expr} {d : Addr} {o : Obj} {es : Array DictEntry} {ep : Nat} {xs : List ((Bool × Bool) × Addr × V)} (it : Addr) (hod : o.data = .dict es ep) : Turn P w K tg (Itkb K d o xs) [it] it (fun i h => h.IsKeyIter it d i xs.length ep) where
  mem := by simp
  obj := fun i h st b hb => by
    have e : b = it := by simpa using hb
    subst e
    obtain ⟨oi, e, c, dd⟩ := st
    exact ⟨oi, e, fun v z => by rw [dd] at z; cases z⟩
  keep := fun i h h' st k => st.at fun oi e => k it (by simp) oi e
  item := by
    intro X hP hw hK hc i pins s σ H E I hf st hg
    subst hP hw hK
    obtain ⟨hd, hi⟩ := hg
    obtain ⟨f0, f1, f2, f3, f4, f5⟩ := hf it (by simp)
    obtain ⟨hs, hgd, hx, es', ep', hdt, hsz, ent⟩ := frzB I hd
    obtain ⟨rfl, rfl⟩ := dict_ep hod hdt
    obtain ⟨y, hkv⟩ : ∃ p, xs[i]? = some p := ⟨xs[i], List.getElem?_eq_getElem hi⟩
    obtain ⟨en, hen, hkey⟩ := ent i y hkv
    refine next_key_item st hgd hdt hsz hen fun h' st' sb => ?_
    have I1 : Inv X pins σ H { s with heap := h' } := I.turned (t' := s.toks) (fun b ob hb e => (sb.2 b hb).trans e) f0 f1 f3 f4 f5
    obtain ⟨oi, e, c, dd⟩ := id st'
    exact ⟨en.key, rfl, go_of (s := { s with heap := h' }) e c dd (by decide) ⟨.ref y.2.1, H, I1, hkey, ⟨rfl, y, hkv, rfl⟩, st', fun b hb => (hf b hb).1⟩⟩
  done := by
    intro X hP hw hK hc i pins s σ H E I hf st hg
    subst hP hw hK
    obtain ⟨hd, hi⟩ := hg
    obtain ⟨f0, f1, f2, f3, f4, f5⟩ := hf it (by simp)
    obtain ⟨hs, hgd, hx, es', ep', hdt, hsz, ent⟩ := frzB I hd
    obtain ⟨rfl, rfl⟩ := dict_ep hod hdt
    exact next_key_end (I.ok.hd hc) st hgd hdt hsz hi fun h' eb => ⟨rfl, I.turned (t' := s.toks) (fun b ob hb e => eb b ob hb e) f0 f1 f3 f4 f5⟩
  self := fun A i s Q E st h => by
    refine wpAny_pyIter_slot st.typeIs F.slot_dict_keyiterator_iter (wpAny_call_entry F.slot_dict_keyiterator_iter st.typeIs F.entry_dict_keyiterator_iter ?_ (F.args_dict_keyiterator_iter_1 _))
    show wpAny _ _ (ret (.ref it)) _ _ s
    exact wpAny_pure ⟨_, rfl, "dict_keyiterator", _, st.typeIs, F.slot_dict_keyiterator_next.lookup, h⟩
def iKz (K : PySem.W.Frag) (td : TE) : TI := fun σ H R => td σ H fun x H1 => ∃ d o xs, x = .ref d ∧ H1 d = some (.frz o (BdO d xs)) ∧ R (Itkb K d o xs) H1
theorem pi_kz {X : Cx} {tg e : Expr} {td : TE} (he : PE X e td) : PI X tg e (iKz X.K td) := by
  refine ⟨fun pins s σ H R I h => ?_⟩
  refine thn (he.run pins s σ H _ I h) fun u s1 ⟨x, H1, I1, rx, d, o, xs, ex, hd, q⟩ => ?_
  subst ex
  obtain rfl : u = Value.ref d := rx
  obtain ⟨hs, hgd, hx, es, ep, hdt, hsz, ent⟩ := frzB I1 hd
  refine iter_keys hs hgd hx hdt (pi_one (tk := s1.toks) I1 _ (turn_keysB _ hdt) ⟨_, Heap.get?_push_size _ rfl, rfl, ?_⟩ q)
  rw [hsz] <;> rfl
theorem kpi_kz {X : Cx} {tg e : Expr} {td : TE} (K : PySem.W.Frag) (h : X.K = K) (he : PE X e td) : PI X tg e (iKz K td) := by
  subst h
  exact pi_kz he
/-- the thing stays as it is from now on -/
def tFix (t : TS) : TS := fun D σ H => ∃ d u, H d = some u ∧ Mut (some u) ∧ ∀ od, t D σ (upd H d (.frz od u))
theorem ps_fix {X : Cx} {st : Stmt} {t : TS} (h : PS X st t) : PS X st (tFix t) := by
  refine ⟨fun pins s σ H D I hw => ?_⟩
  obtain ⟨d, u, hd, mu, hw⟩ := hw
  obtain ⟨od, I1⟩ := I.lock hd mu
  exact h.run pins s σ _ D I1 (hw od)
variable [Tabl]
/-! ### slots -/
def bdOf : SV → Option (List ((Bool × Bool) × PD))
  | .bd es => some es
  | .bz es => some es
  | _ => none
def k2 : PD → Option (Bool × Bool)
  | .tuple [.bool a, .bool b] => some (a, b)
  | _ => none
def lkD (es : List ((Bool × Bool) × PD)) (k : Bool × Bool) : Option PD := (es.find? fun e => decide (e.1 = k)).map (·.2)
def putBD (es : List ((Bool × Bool) × PD)) (k : Bool × Bool) (d : PD) : List ((Bool × Bool) × PD) :=
  if (lkD es k).isSome then es.map (fun e => if e.1 = k then (e.1, d) else e) else es ++ [(k, d)]
section
variable {K : PySem.W.Frag} {H : Hp}
theorem BdR.keys : ∀ {xs : List ((Bool × Bool) × Addr × V)} {es : List ((Bool × Bool) × PD)}, BdR K H xs es → KeysB K H xs
  | _, _, .nil, _, h => nomatch h
  | _, _, .cons a b r, x, hx => by
    rcases List.mem_cons.mp hx with rfl | hx
    · exact a
    · exact BdR.keys r x hx
theorem BdR.len : ∀ {xs : List ((Bool × Bool) × Addr × V)} {es : List ((Bool × Bool) × PD)}, BdR K H xs es → xs.length = es.length
  | _, _, .nil => rfl
  | _, _, .cons a b r => by simp [BdR.len r]
theorem BdR.lk (k : Bool × Bool) : ∀ {xs : List ((Bool × Bool) × Addr × V)} {es : List ((Bool × Bool) × PD)}, BdR K H xs es → (lkB xs k).isSome = (lkD es k).isSome ∧ ∀ d, lkD es k = some d → ∃ v, lkB xs k = some v ∧ Rp K H v d
  | _, _, .nil => ⟨rfl, fun d h => by simp [lkD] at h⟩
  | _, _, .cons (k := j) (v := v) (d := d) a b r => by
    have ih := BdR.lk k r
    unfold lkB lkD at ih ⊢
    by_cases e : j = k
    · rw [List.find?_cons_of_pos (by simpa using e), List.find?_cons_of_pos (by simpa using e)]
      exact ⟨rfl, fun d' h => by cases h; exact ⟨v, rfl, b⟩⟩
    · rw [List.find?_cons_of_neg (by simpa using e), List.find?_cons_of_neg (by simpa using e)]
      exact ih
theorem BdR.put {k : Bool × Bool} {q : Addr} {v : V} {d : PD} (hq : SqT K H q [.bl k.1, .bl k.2]) (hv : Rp K H v d) {xs : List ((Bool × Bool) × Addr × V)} {es : List ((Bool × Bool) × PD)} (r : BdR K H xs es) : BdR K H (putB xs k q v) (putBD es k d) := by
  unfold putB putBD
  rw [(r.lk k).1]
  split
  · rename_i h
    clear h
    induction r with
    | nil => exact .nil
    | @cons j p u e xs es a b r ih =>
      rw [List.map_cons, List.map_cons]
      by_cases z : j = k
      · rw [if_pos z, if_pos z]
        exact .cons a hv ih
      · rw [if_neg z, if_neg z]
        exact .cons a b ih
  · rename_i h
    clear h
    induction r with
    | nil => exact .cons hq hv .nil
    | cons a b r ih => exact .cons a b ih
theorem BdR.get : ∀ {xs : List ((Bool × Bool) × Addr × V)} {es : List ((Bool × Bool) × PD)} {i : Nat} {e : (Bool × Bool) × PD}, BdR K H xs es → es[i]? = some e → ∃ y, xs[i]? = some y ∧ SqT K H y.2.1 [.bl e.1.1, .bl e.1.2]
  | _, _, _, _, .nil, h => by simp at h
  | _, _, 0, _, .cons a _ _, e => by simp at e; subst e; exact ⟨_, rfl, a⟩
  | _, _, i + 1, _, .cons _ _ r, e => by
    obtain ⟨y, h1, h2⟩ := BdR.get (i := i) r (by simpa using e)
    exact ⟨y, by simpa using h1, h2⟩
end
section
variable {K : PySem.W.Frag} {H0 H : Hp} {ext : AS} {reg : Nat → AS} {en : En} {σ : L2.St}
theorem RS.bdAt (r : RS K H0 ext reg en σ H) {i : Nat} {es : List ((Bool × Bool) × PD)} (h : (en[i]?).bind bdOf = some es) : ∃ p xs, σ[i]? = some (some (.ref p)) ∧ Rd H p (BdO p xs) ∧ BdR K (hid H (own ext reg)) xs es := by
  cases e : en[i]? with
  | none => rw [e] at h; cases h
  | some sv =>
    rw [e] at h
    cases sv with
    | bd es' =>
      cases h
      obtain ⟨v, h1, p, xs, rfl, h2, h3, h4⟩ := r.sl i _ e
      exact ⟨p, xs, h1, .inl h3, h4⟩
    | bz es' =>
      cases h
      obtain ⟨v, h1, p, o, xs, rfl, h2, h3⟩ := r.sl i _ e
      exact ⟨p, xs, h1, .inr ⟨o, hid_ex.k _ _ h2 rfl⟩, h3⟩
    | _ => cases h
theorem RS.bdIn (r : RS K H0 ext reg en σ H) {i : Nat} {es : List ((Bool × Bool) × PD)} (h : en[i]? = some (.bd es)) : ∃ p xs, σ[i]? = some (some (.ref p)) ∧ reg i p ∧ H p = some (BdO p xs) ∧ BdR K (hid H (own ext reg)) xs es := by
  obtain ⟨v, h1, p, xs, rfl, h2, h3, h4⟩ := r.sl i _ h
  exact ⟨p, xs, h1, h2, h3, h4⟩
/-- it never changes any more -/
theorem RS.fix (r : RS K H0 ext reg en σ H) {i : Nat} {es : List ((Bool × Bool) × PD)} {p : Addr} {xs : List ((Bool × Bool) × Addr × V)} (h : en[i]? = some (.bd es)) (hs : σ[i]? = some (some (.ref p))) (hi : reg i p) (hp : H p = some (BdO p xs)) (hr : BdR K (hid H (own ext reg)) xs es) (o : Obj) :
    RS K H0 ext (drp reg i) (en.set i (.bz es)) σ (upd H p (.frz o (BdO p xs))) := by
  have nj : ∀ j a, drp reg i j a → a ≠ p := fun j a ⟨hj, q⟩ z => hj (r.dj j i p (by rw [← z]; exact q) hi)
  have up : Ex (hid H (own ext reg)) (hid (upd H p (.frz o (BdO p xs))) (own ext (drp reg i))) := Ex.of fun a u q => by
    obtain ⟨z, q⟩ := hid_some q
    have ne : a ≠ p := fun e => z (.inr ⟨i, by rw [e]; exact hi⟩)
    rw [hid_at fun t => z (own_drp t), upd_ne ne]
    exact q
  refine ⟨r.le.mut (r.rg i p hi).1, tabs_wr r.tb hp (isLD_bd p xs) fun a ha => upd_ne ha, r.exd, fun j a hja => ⟨(r.rg j a hja.2).1, ?_⟩, fun j k a ⟨_, q⟩ ⟨_, q'⟩ => r.dj j k a q q', fun j a ⟨hj, q⟩ => ?_, by simp [r.len], fun j sv e => ?_⟩
  · obtain ⟨u, q2, q3⟩ := (r.rg j a hja.2).2
    exact ⟨u, by rw [upd_ne (nj j a hja)]; exact q2, q3⟩
  · obtain ⟨sv, h1, h2⟩ := r.ro j a q
    exact ⟨sv, by rw [List.getElem?_set_ne (Ne.symm hj)]; exact h1, h2⟩
  · by_cases hj : i = j
    · subst hj
      rw [List.getElem?_set_self (List.getElem?_eq_some_iff.mp h).1] at e
      cases e
      refine ⟨_, hs, p, o, xs, rfl, ?_, hr.mono up.le⟩
      rw [hid_at fun t => by
        rcases t with t | ⟨j, t⟩
        · exact r.noext hi t
        · exact nj j p t rfl, upd_same]
    · rw [List.getElem?_set_ne hj] at e
      obtain ⟨u, h1, h2⟩ := r.sl j sv e
      refine ⟨u, h1, (h2.mono (H' := upd H p (.frz o (BdO p xs))) up fun a u' z q n => ?_).rg fun a q => ⟨fun z => hj z.symm, q⟩⟩
      rw [upd_ne (nj j a ⟨fun z => hj z.symm, z⟩)]
      exact q
/-- it goes to another name -/
def mvR (reg : Nat → AS) (j i : Nat) : Nat → AS := fun k a => (k = i ∧ reg j a) ∨ (k ≠ i ∧ k ≠ j ∧ reg k a)
theorem own_mv {ext : AS} {reg : Nat → AS} {j i : Nat} {a : Addr} (h : own ext (mvR reg j i) a) : own ext reg a := by
  rcases h with h | ⟨k, ⟨_, h⟩ | ⟨_, _, h⟩⟩
  · exact .inl h
  · exact .inr ⟨j, h⟩
  · exact .inr ⟨k, h⟩
theorem RS.move (r : RS K H0 ext reg en σ H) {i j : Nat} {es : List ((Bool × Bool) × PD)} {p : Addr} (h : en[j]? = some (.bd es)) (hs : σ[j]? = some (some (.ref p))) (hij : i ≠ j) (hi : i < en.length) :
    RS K H0 ext (mvR reg j i) ((en.set j .no).set i (.bd es)) (σ.set i (some (.ref p))) H := by
  have up : Ex (hid H (own ext reg)) (hid H (own ext (mvR reg j i))) := (Ex.refl H).hidLess fun a z => own_mv z
  refine ⟨r.le, r.tb, r.exd, fun k a q => ?_, fun k l a q q' => ?_, fun k a q => ?_, by simp [r.len], fun k sv e => ?_⟩
  · rcases q with ⟨_, q⟩ | ⟨_, _, q⟩
    · exact r.rg j a q
    · exact r.rg k a q
  · rcases q with ⟨e1, q⟩ | ⟨n1, n2, q⟩
    · rcases q' with ⟨e2, q'⟩ | ⟨n3, n4, q'⟩
      · rw [e1, e2]
      · exact absurd (r.dj j l a q q').symm n4
    · rcases q' with ⟨e2, q'⟩ | ⟨n3, n4, q'⟩
      · exact absurd (r.dj k j a q q') n2
      · exact r.dj k l a q q'
  · rcases q with ⟨e1, q⟩ | ⟨n1, n2, q⟩
    · exact ⟨.bd es, by rw [e1, List.getElem?_set_self (by simpa using hi)], rfl⟩
    · obtain ⟨sv, h1, h2⟩ := r.ro k a q
      exact ⟨sv, by rw [List.getElem?_set_ne (Ne.symm n1), List.getElem?_set_ne (Ne.symm n2)]; exact h1, h2⟩
  · by_cases hk : i = k
    · subst hk
      rw [List.getElem?_set_self (by simpa using hi)] at e
      cases e
      obtain ⟨v, h1, p', xs, rfl, h2, h3, h4⟩ := r.sl j _ h
      rw [hs] at h1
      cases h1
      exact ⟨some (.ref p), by rw [List.getElem?_set_self (by rw [r.len]; exact hi)], p, xs, rfl, .inl ⟨rfl, h2⟩, h3, h4.mono up.le⟩
    · rw [List.getElem?_set_ne hk] at e
      by_cases hk2 : j = k
      · subst hk2
        rw [List.getElem?_set_self (List.getElem?_eq_some_iff.mp h).1] at e
        cases e
        obtain ⟨v, h1, _⟩ := r.sl j _ h
        exact ⟨v, by rw [List.getElem?_set_ne hk]; exact h1, True.intro⟩
      · rw [List.getElem?_set_ne hk2] at e
        obtain ⟨u, h1, h2⟩ := r.sl k sv e
        refine ⟨u, by rw [List.getElem?_set_ne hk]; exact h1, (h2.mono (H' := H) up fun a u' z q n => q).rg fun a q => .inr ⟨fun z => hk z.symm, fun z => hk2 z.symm, q⟩⟩
/-- a stranger's new thing becomes a slot's own -/
theorem RS.adopt {H3 : Hp} {G : Hp} {i : Nat} {p : Addr} {o o' : HO} {sv : SV} (r : RS K H0 ext reg en σ H) (r3 : RS K G (fun a => ext a ∨ a = p) reg en σ H3) (hp : H p = none) (e3 : Xt (upd H p o) H3) (hil : i < en.length) (ho : isOwn sv = true) (hl : ∃ o0, H3 p = some o0 ∧ isLD o0 = true) (ht' : isTb o' = false)
    (h : SlotOk K (hid H3 (own (fun a => ext a ∨ a = p) reg)) (upd H3 p o') (some (.ref p)) (fun a => a = p) sv) :
    RS K H0 ext (put reg i p) (en.set i sv) (σ.set i (some (.ref p))) (upd H3 p o') := by
  have np : ∀ j, ¬ reg j p := fun j z => by
    obtain ⟨u, e, _⟩ := (r.rg j p z).2
    rw [hp] at e
    cases e
  have nx : ¬ ext p := fun z => by
    obtain ⟨u, e, _⟩ := r.le.so (r.exd p z)
    rw [hp] at e
    cases e
  have sub : ∀ a, own ext (put reg i p) a → own ext reg a ∨ a = p := fun a z => by
    rcases z with z | ⟨j, ⟨_, z⟩ | ⟨_, z⟩⟩
    · exact .inl (.inl z)
    · exact .inl (.inr ⟨j, z⟩)
    · exact .inr z
  have up : Ex (hid H3 (own (fun a => ext a ∨ a = p) reg)) (hid (upd H3 p o') (own ext (put reg i p))) := Ex.of fun a u q => by
    obtain ⟨z, q⟩ := hid_some q
    have ne : a ≠ p := fun e => z (.inl (.inr e))
    rw [hid_at fun t => by
      rcases sub a t with (t | t) | t
      · exact z (.inl (.inl t))
      · exact z (.inr t)
      · exact ne t, upd_ne ne]
    exact q
  refine ⟨⟨fun a u ha n => ?_⟩, (let ⟨o0, q1, q2⟩ := hl; tabs_wr r3.tb q1 q2 fun a ha => upd_ne ha), r.exd, fun j a q => ?_, fun j k a q q' => ?_, fun j a q => ?_, by simp [r.len], fun j sv' e => ?_⟩
  · have h1 := r.le.k a u ha n
    have ne : a ≠ p := fun e => by
      rw [e, hp] at h1
      cases h1
    rw [upd_ne ne]
    exact e3.k a u (by rw [upd_ne ne]; exact h1) n
  · rcases q with ⟨_, q⟩ | ⟨_, q⟩
    · have ne : a ≠ p := fun e => np j (by rw [← e]; exact q)
      obtain ⟨u, q2, q3⟩ := (r3.rg j a q).2
      exact ⟨(r.rg j a q).1, u, by rw [upd_ne ne]; exact q2, q3⟩
    · have q' : a = p := q
      rw [q']
      exact ⟨r.le.nn (.of hp), o', upd_same, ht'⟩
  · rcases q with ⟨n1, q⟩ | ⟨n1, q⟩
    · rcases q' with ⟨n2, q'⟩ | ⟨n2, q'⟩
      · exact r.dj j k a q q'
      · have z : a = p := q'
        rw [z] at q
        exact absurd q (np j)
    · rcases q' with ⟨n2, q'⟩ | ⟨n2, q'⟩
      · have z : a = p := q
        rw [z] at q'
        exact absurd q' (np k)
      · rw [n1, n2]
  · rcases q with ⟨n1, q⟩ | ⟨n1, q⟩
    · obtain ⟨sv', h1, h2⟩ := r.ro j a q
      exact ⟨sv', by rw [List.getElem?_set_ne (Ne.symm n1)]; exact h1, h2⟩
    · rw [n1]
      exact ⟨sv, by rw [List.getElem?_set_self hil], ho⟩
  · by_cases hj : i = j
    · subst hj
      rw [List.getElem?_set_self hil] at e
      cases e
      exact ⟨some (.ref p), by rw [List.getElem?_set_self (by rw [r.len]; exact hil)], (h.mono (H' := upd H3 p o') up fun _ _ _ q _ => q).rg fun a q => .inr ⟨rfl, q⟩⟩
    · rw [List.getElem?_set_ne hj] at e
      obtain ⟨u, h1, h2⟩ := r3.sl j sv' e
      refine ⟨u, by rw [List.getElem?_set_ne hj]; exact h1, (h2.mono (H' := upd H3 p o') up fun a u' z q n => ?_).rg fun a q => .inl ⟨fun z => hj z.symm, q⟩⟩
      rw [upd_ne fun e => np j (by rw [← e]; exact z)]
      exact q
end
/-! ### what they come to -/
def dBGet (i : Nat) (fy : En → R PD) : En → R PD := fun en => match (en[i]?).bind bdOf with
  | some es => (fy en).bind fun y => match k2 y with
    | some k => match lkD es k with
      | some d => .ok d
      | none => .stuck
    | none => .stuck
  | none => .stuck
def dBIn (b : Bool) (i : Nat) (fy : En → R PD) : En → R PD := fun en => match (en[i]?).bind bdOf with
  | some es => (fy en).bind fun y => match k2 y with
    | some k => .ok (.bool (xor b (lkD es k).isSome))
    | none => .stuck
  | none => .stuck
def sBPut (i : Nat) (fy fv : En → R PD) : En → R Fl := fun en => match en[i]? with
  | some (.bd es) => (fv en).bind fun v => (fy en).bind fun y => match k2 y with
    | some k => if es.length + 1 ≤ szN then .ok (.nx (en.set i (.bd (putBD es k v)))) else .stuck
    | none => .stuck
  | _ => .stuck
def sBNew (i : Nat) : En → R Fl := fun en => if i < en.length then .ok (.nx (en.set i (.bd []))) else .stuck
def sBDisp (i : Nat) (fy fv : En → R PD) : En → R Fl := fun en => if i < en.length then (fy en).noexc.bind fun y => (fv en).noexc.bind fun v => match k2 y with
    | some k => .ok (.nx (en.set i (.bd [(k, v)])))
    | none => .stuck
  else .stuck
def sBMove (i l j : Nat) (fe : En → R PD) : En → R Fl := fun en => match en[j]? with
  | some (.bd es) => if i ≠ j ∧ i < en.length then (fe en).bind fun d => .ok (.nx (((en.set j .no).set i (.bd es)).set l (.sh d))) else .stuck
  | _ => .stuck
def dKeysB (i : Nat) : En → R (List PD) := fun en => match en[i]? with
  | some (.bz es) => .ok (es.map fun e => .tuple [.bool e.1.1, .bool e.1.2])
  | _ => .stuck
def sFix (i : Nat) (f : En → R Fl) : En → R Fl := fun en => match en[i]? with
  | some (.bd es) => f (en.set i (.bz es))
  | _ => .stuck
section
variable {C : Cn} {ty tv te : TE} {fy fv fe : En → R PD}
theorem k2_sqt {Hs : Hp} {u : V} {y : PD} {k : Bool × Bool} (h : Rp C.K Hs u y) (e : k2 y = some k) : ∃ q, u = .ref q ∧ SqT C.K Hs q [.bl k.1, .bl k.2] := by
  unfold k2 at e
  split at e
  · cases e
    cases h with
    | tup h1 h2 =>
      cases h2 with
      | cons a r =>
        cases a
        cases r with
        | cons b r =>
          cases b
          cases r
          exact ⟨_, rfl, h1⟩
  · cases e
theorem ed_bget {i : Nat} (h : EdS C ty fy) : EdS C (tBGet C.K (tVar i) ty) (dBGet i fy) := fun H0 ext reg en σ H rs Q w => by
  unfold dBGet at w
  cases e : (en[i]?).bind bdOf with
  | none => rw [e] at w; exact w.elim
  | some es =>
    rw [e] at w
    obtain ⟨p0, xs0, h0, _, _⟩ := rs.bdAt e
    refine ⟨_, h0, h.seq rs (W := WrS C (own ext reg) H Q) w (fun _ q => q) (fun q => q) fun y u H2 e2 r2 h2 w2 => ?_⟩
    split at w2
    · rename_i k ek
      split at w2
      · rename_i d ed
        obtain ⟨p, xs, h1, h3, h4⟩ := r2.bdAt e
        rw [h0] at h1
        cases h1
        obtain ⟨q, rfl, hq⟩ := k2_sqt h2 ek
        obtain ⟨v, hv, rv⟩ := (h4.lk k).2 d ed
        exact ⟨q, p0, xs, v, k, rfl, rfl, h3, fun x hx => hid_ex.le.t _ _ (h4.keys x hx), hid_ex.le.t _ _ hq, hv, w2 v H2 e2 rv⟩
      · exact w2.elim
    · exact w2.elim
theorem ed_bin {i : Nat} (h : EdS C ty fy) : EdS C (tOp (rInB C.K) ty (tVar i)) (dBIn false i fy) := fun H0 ext reg en σ H rs Q w => by
  unfold dBIn at w
  cases e : (en[i]?).bind bdOf with
  | none => rw [e] at w; exact w.elim
  | some es =>
    rw [e] at w
    refine h.seq rs (W := WrS C (own ext reg) H Q) w (fun _ q => q) (fun q => q) fun y u H2 e2 r2 h2 w2 => ?_
    split at w2
    · rename_i k ek
      obtain ⟨p, xs, h1, h3, h4⟩ := r2.bdAt e
      obtain ⟨q, rfl, hq⟩ := k2_sqt h2 ek
      refine ⟨_, h1, q, p, xs, k, rfl, rfl, h3, fun x hx => hid_ex.le.t _ _ (h4.keys x hx), hid_ex.le.t _ _ hq, ?_⟩
      rw [(h4.lk k).1]
      rw [Bool.false_xor] at w2
      exact w2 _ H2 e2 (.bl _)
    · exact w2.elim
theorem ed_bnotin {i : Nat} (h : EdS C ty fy) : EdS C (tOp (rNotInB C.K) ty (tVar i)) (dBIn true i fy) := fun H0 ext reg en σ H rs Q w => by
  unfold dBIn at w
  cases e : (en[i]?).bind bdOf with
  | none => rw [e] at w; exact w.elim
  | some es =>
    rw [e] at w
    refine h.seq rs (W := WrS C (own ext reg) H Q) w (fun _ q => q) (fun q => q) fun y u H2 e2 r2 h2 w2 => ?_
    split at w2
    · rename_i k ek
      obtain ⟨p, xs, h1, h3, h4⟩ := r2.bdAt e
      obtain ⟨q, rfl, hq⟩ := k2_sqt h2 ek
      refine ⟨_, h1, q, p, xs, k, rfl, rfl, h3, fun x hx => hid_ex.le.t _ _ (h4.keys x hx), hid_ex.le.t _ _ hq, ?_⟩
      rw [(h4.lk k).1]
      rw [Bool.true_xor] at w2
      exact w2 _ H2 e2 (.bl _)
    · exact w2.elim
theorem es_bput {i : Nat} (hy : EdS C ty fy) (hv : EdS C tv fv) : Es C (sBPutT C.K (tVar i) ty tv) (sBPut i fy fv) := fun H0 ext reg en σ H rs D w => by
  unfold sBPut at w
  cases e : en[i]? with
  | none => rw [e] at w; exact w.elim
  | some sv =>
    rw [e] at w
    cases sv with
    | bd es =>
      obtain ⟨p, xs0, h1, _, _, _⟩ := rs.bdIn e
      refine hv.seq rs (W := WS C H0 ext D) w (fun _ q => WS.exc q rs.le rs.tb) (fun q => q) fun d v H2 e2 r2 h2 w2 => ?_
      refine ⟨_, h1, hy.seq r2 (W := WS C H0 ext D) w2 (fun _ q => WS.exc q r2.le r2.tb) (fun q => q) fun y u H3 e3 r3 h3 w3 => ?_⟩
      split at w3
      · rename_i k ek
        split at w3
        · rename_i hl
          obtain ⟨p', xs, h4, h5, h6, h7⟩ := r3.bdIn e
          rw [h1] at h4
          cases h4
          obtain ⟨q, rfl, hq⟩ := k2_sqt h3 ek
          exact ⟨q, p, xs, k, rfl, rfl, h6, fun x hx => hid_ex.le.t _ _ (h7.keys x hx), hid_ex.le.t _ _ hq, sz_lt (by rw [h7.len]; omega), w3 reg σ _ (r3.wr (i := i) (sv := .bd (putBD es k d)) rfl ⟨_, h6, isLD_bd p xs⟩ h5 h1 ⟨p, _, rfl, h5, upd_same, h7.put hq (h2.mono e3.toEx.hid.le)⟩)⟩
        · exact w3.elim
      · exact w3.elim
    | _ => exact w.elim
theorem es_bnew {i : Nat} : Es C (tAsg tBNew (gName i)) (sBNew i) := fun H0 ext reg en σ H rs D w => fun p hp => by
  unfold sBNew at w
  split at w
  · rename_i hi
    exact w _ _ _ (rs.new (i := i) (sv := .bd []) hi rfl hp ⟨p, [], rfl, rfl, upd_same, .nil⟩)
  · exact w.elim
theorem es_bdisp {i : Nat} (hy : EdS C ty fy) (hv : EdS C tv fv) : Es C (tAsg (tBDisp C.K ty tv) (gName i)) (sBDisp i fy fv) := fun H0 ext reg en σ H rs D w => fun p hp => by
  unfold sBDisp at w
  split at w
  · rename_i hi
    have ra := rs.alien (o := BdO p []) hp
    refine hy _ _ reg en σ _ ra _ ?_
    generalize fy en = x at w ⊢
    cases x with
    | exc c => exact w.elim
    | stuck => exact w.elim
    | ok y =>
      simp only [R.noexc_ok, R.bind_ok] at w
      intro u H2 e2 h2
      have r2 := ra.ex e2
      refine hv _ _ reg en σ _ r2 _ ?_
      generalize fv en = x at w ⊢
      cases x with
      | exc c => exact w.elim
      | stuck => exact w.elim
      | ok v =>
        simp only [R.noexc_ok, R.bind_ok] at w
        intro v' H3 e3 h3
        split at w
        · rename_i k ek
          obtain ⟨q, rfl, hq⟩ := k2_sqt h2 ek
          have e13 := e2.trans e3
          have hp3 : H3 p = some (BdO p []) := e13.k _ _ upd_same rfl
          have hq3 : SqT C.K (hid H3 (own (fun a => ext a ∨ a = p) reg)) q [.bl k.1, .bl k.2] := e3.toEx.hid.le.t _ _ hq
          refine ⟨q, k, rfl, hid_ex.le.t _ _ hq3, hp3, w _ _ _ (RS.adopt (i := i) (o := BdO p []) (o' := BdO p [(k, q, v')]) rs (r2.ex e3) hp e13 hi rfl ⟨_, hp3, isLD_bd p []⟩ rfl ⟨p, _, rfl, rfl, upd_same, .cons hq3 h3 .nil⟩)⟩
        · exact w.elim
  · exact w.elim
theorem es_bmove {i l j : Nat} (he : EdS C te fe) : Es C (tPar i l (tCons (tVar j) (tCons te tNil))) (sBMove i l j fe) := fun H0 ext reg en σ H rs D w => by
  unfold sBMove at w
  cases e : en[j]? with
  | none => rw [e] at w; exact w.elim
  | some sv =>
    rw [e] at w
    cases sv with
    | bd es =>
      dsimp only at w
      split at w
      · rename_i hij
        obtain ⟨p, xs0, h1, _, _, _⟩ := rs.bdIn e
        refine ⟨_, h1, he.seq rs (W := WS C H0 ext D) w (fun _ q => WS.exc q rs.le rs.tb) (fun q => q) fun d v H2 e2 r2 h2 w2 => ?_⟩
        have r3 := r2.move (i := i) (p := p) e h1 hij.1 hij.2
        exact ⟨_, _, rfl, w2 _ _ _ (r3.set (i := l) (h2.mono ((Ex.refl H2).hidLess fun a z => own_mv z).le))⟩
      · exact w.elim
    | _ => exact w.elim
theorem es_fix {t : TS} {f : En → R Fl} (i : Nat) (h : Es C t f) : Es C (tFix t) (sFix i f) := fun H0 ext reg en σ H rs D w => by
  unfold sFix at w
  cases e : en[i]? with
  | none => rw [e] at w; exact w.elim
  | some sv =>
    rw [e] at w
    cases sv with
    | bd es =>
      obtain ⟨p, xs, h1, h2, h3, h4⟩ := rs.bdIn e
      exact ⟨p, BdO p xs, h3, True.intro, fun o => h H0 ext _ _ σ _ (rs.fix e h1 h2 h3 h4 o) D w⟩
    | _ => exact w.elim
theorem ei_keysB (i : Nat) : EdI C (iKz C.K (tVar i)) (dKeysB i) := fun H0 ext reg en σ H rs Q w => by
  unfold dKeysB at w
  cases e : en[i]? with
  | none => rw [e] at w; exact w.elim
  | some sv =>
    rw [e] at w
    cases sv with
    | bz es =>
      obtain ⟨v, h1, p, o, xs, rfl, h2, h3⟩ := rs.sl i _ e
      refine ⟨_, h1, p, o, xs, rfl, hid_ex.k _ _ h2 rfl, w _ H (Xt.refl H) fun Z H' e' hz j => ⟨fun d hd => ?_, fun hl => ?_⟩⟩
      · have q1 : H' p = some (.frz o (BdO p xs)) := hid_ex.k _ _ (e'.k _ _ h2 rfl) rfl
        rw [List.getElem?_map] at hd
        cases q : es[j]? with
        | none => rw [q] at hd; cases hd
        | some x =>
          rw [q] at hd
          cases hd
          obtain ⟨y, h4, h5⟩ := h3.get q
          refine ⟨⟨q1, (List.getElem?_eq_some_iff.mp h4).1⟩, ?_⟩
          rintro u H'' ⟨rfl, y', h6, rfl⟩
          rw [h4] at h6
          cases h6
          exact ⟨Xt.refl _, .tup (e'.sqt h5) (.cons (.bl _) (.cons (.bl _) .nil))⟩
      · refine ⟨hid_ex.k _ _ (e'.k _ _ h2 rfl) rfl, ?_⟩
        rw [h3.len]
        rw [List.length_map] at hl
        exact Nat.le_of_eq hl
    | _ => exact w.elim
end
end Dn

/-! zip of a text and a list; tuple(list); how many signs of a text are unlike. -/
namespace Dn
open PySem L2 PySem.Spec PyProof.Rows
theorem vals_at0 : ∀ {xs : List V} {us : List Value}, Vals xs us → ∀ {i : Nat} {u : Value}, us[i]? = some u → ∃ v, xs[i]? = some v ∧ RelV v u
  | _, _, .nil, _, _, h => by simp at h
  | _, _, .cons h t, 0, u, e => by simp at e; subst e; exact ⟨_, rfl, h⟩
  | _, _, .cons h t, i + 1, u, e => by
    obtain ⟨v, h1, h2⟩ := vals_at0 t (i := i) (by simpa using e)
    exact ⟨v, by simpa using h1, h2⟩
/-! ### zip(text, list) -/
def ItZm (K : PySem.W.Frag) (x : Str) (l : Addr) : It := ⟨fun i H => ∃ xs, SqL K H l xs ∧ i < x.cps.size ∧ i < xs.length, fun i H v H' => ∃ T c y, v = .ref T ∧ H T = none ∧ x.cps[i]? = some c ∧ (∀ xs, SqL K H l xs → xs[i]? = some y) ∧ H' = upd H T (.tup [.str ⟨#[c]⟩, y]), fun i H => ∃ xs, SqL K H l xs ∧ i ≤ x.cps.size ∧ i ≤ xs.length ∧ (i = x.cps.size ∨ i = xs.length)⟩
structure StZm (x : Str) (l : Addr) (t : Tok) (N : Nat) (i : Nat) (h : Heap) : Prop where
  z : IsZip h (N + 4) (N + 2) (N + 3) .none
  ti : IsTupOf2 h (N + 2) (.ref N) (.ref (N + 1))
  to : ∃ p q, IsTupOf2 h (N + 3) p q
  a : h.IsStrIter N (strIterType x) x t i
  b : h.IsListIter (N + 1) l i
theorem turn_zipM {P : Program} {w : World} {K : PySem.W.Frag} {elts : List Expr} {kk : Nat} {tpos : Pos} (x : Str) (l : Addr) (t : Tok) (N : Nat) (hlN : l < N) :
    Turn P w K (.Tuple elts kk tpos) (ItZm K x l) (fpZ N) (N + 4) (StZm x l t N) where
  mem := List.mem_cons_self ..
  obj := fun i h st c hc => by
    obtain ⟨hz, hTI, ⟨p, q, hTO⟩, ⟨o1, e1, _, d1⟩, ⟨o2, e2, _, d2⟩⟩ := st
    rcases five hc with r | r | r | r | r
    · exact r ▸ ⟨_, hz, fun v q => nomatch q⟩
    · exact r ▸ ⟨_, hTI, fun v q => nomatch q⟩
    · exact r ▸ ⟨_, hTO, fun v q => nomatch q⟩
    · exact r ▸ ⟨o1, e1, fun v q => by rw [d1] at q; cases q⟩
    · exact r ▸ ⟨o2, e2, fun v q => by rw [d2] at q; cases q⟩
  keep := fun i h h' st k => by
    obtain ⟨hz, hTI, ⟨p, q, hTO⟩, ⟨o1, e1, r1⟩, ⟨o2, e2, r2⟩⟩ := st
    exact ⟨k _ (by simp) _ hz, k _ (by simp) _ hTI, ⟨p, q, k _ (by simp) _ hTO⟩, ⟨o1, k _ (by simp) _ e1, r1⟩, ⟨o2, k _ (by simp) _ e2, r2⟩⟩
  item := by
    intro X hP hw hK hc i pins s σ H E I hf st hg
    subst hP hw hK
    obtain ⟨hz, hTI, ⟨p, q, hTO⟩, h1, h2⟩ := st
    obtain ⟨xs, hq, hg1, hg2⟩ := hg
    obtain ⟨its, rv, pl, hzl0⟩ := I.list hq
    have S : ZipSep2 (N + 4) (N + 2) (N + 3) N (N + 1) [N] [N + 1, l] := zip_sep2 (fp1 := []) (fp2 := [l]) (fun _ h => nomatch h) fun b hb => by rw [List.mem_singleton.mp hb]; exact hlN
    have hzl : N + 4 < s.heap.objs.size := Heap.lt_size hz
    have hne : l ≠ N + 1 := Nat.ne_of_lt (Nat.lt_succ_of_lt hlN)
    refine wpAny_pyNext_zipD2_item S (Draws.text (A := X.A.in1) (I.ok.hd hc) N x t) (Draws.list (A := X.A.in1) (I.ok.hd hc) (N + 1) l hne its.toArray) hz hTI hTO h1 ⟨h2, pl.isList⟩ hg1 (by rw [List.size_toArray, ← rv.length]; exact hg2) fun v1 v2 h' tk p1 p2 z' to' a' b' hT hsz hk => ?_
    obtain ⟨c, tc, hcx, rfl⟩ := p1
    have p2' : its[i]? = some v2 := by simpa using p2
    obtain ⟨y, hy, ry⟩ := vals_at0 rv p2'
    refine ⟨_, rfl, wpAny_letOwnedTupleGo_zip (s := { s with heap := h', toks := tk }) z' fun h'' z'' sb => ?_⟩
    have ob : ObjOk X.prog X.w (upd H s.heap.objs.size (.tup [.str ⟨#[c]⟩, y])) h'' s.heap.objs.size (.tup [.str ⟨#[c]⟩, y]) :=
      ⟨by show 2 ≤ sizeLine; decide, [.str ⟨#[c]⟩ tc, v2], .cons ⟨_, rfl⟩ (.cons ry .nil), ⟨_, (sb.2 _ (Nat.ne_of_gt hzl)).trans hT, rfl, _, rfl⟩⟩
    have I1 : Inv X pins σ (upd H s.heap.objs.size (.tup [.str ⟨#[c]⟩, y])) { s with heap := h'', toks := tk } :=
      I.turnedNew (ch := fpZ N) (fun e o ne l => (sb.2 e fun r => ne (by simp [r])).trans (hk e o (fun r => ne (by simp [r])) (fun r => ne (by simp [r])) (fun r => ne (by simp [r])) (fun r => ne (by simp [r])) l)) hf (Nat.le_refl _) ob
    refine ⟨.ref s.heap.objs.size, _, I1, rfl, ⟨_, c, y, rfl, I.hok.fresh (Nat.le_refl _), hcx, fun ys hys => by rw [I.list_inj hys hq]; exact hy, rfl⟩, ⟨z'', (sb.2 _ S.TIz).trans (hk _ _ S.TIz S.TITO S.TIi1 S.TIi2 hTI), ⟨_, _, (sb.2 _ S.TOz).trans to'⟩, ?_, ?_⟩, fun e he => ?_⟩
    · obtain ⟨o, l, r⟩ := a'
      exact ⟨o, (sb.2 N S.zi1.symm).trans l, r⟩
    · obtain ⟨⟨o, l, r⟩, _⟩ := b'
      exact ⟨o, (sb.2 _ S.zi2.symm).trans l, r⟩
    · have lt : e < s.heap.objs.size := by
        have hzl' : (N + 4 : Nat) < s.heap.objs.size := hzl
        rcases five he with r | r | r | r | r <;> subst r <;> show (_ : Nat) < _ <;> omega
      rw [upd_ne (Nat.ne_of_lt lt)]
      exact (hf e he).1
  done := by
    intro X hP hw hK hc i pins s σ H E I hf st hg
    subst hP hw hK
    obtain ⟨hz, hTI, ⟨p, q, hTO⟩, h1, h2⟩ := st
    obtain ⟨xs, hq, hg1, hg2, hg3⟩ := hg
    obtain ⟨its, rv, pl, hzl0⟩ := I.list hq
    have S : ZipSep2 (N + 4) (N + 2) (N + 3) N (N + 1) [N] [N + 1, l] := zip_sep2 (fp1 := []) (fp2 := [l]) (fun _ h => nomatch h) fun b hb => by rw [List.mem_singleton.mp hb]; exact hlN
    have hne : l ≠ N + 1 := Nat.ne_of_lt (Nat.lt_succ_of_lt hlN)
    have hsz : its.toArray.size = xs.length := by rw [List.size_toArray, ← rv.length]
    exact wpAny_pyNext_zipD2_end S (Draws.text (A := X.A.in1) (I.ok.hd hc) N x t) (Draws.list (A := X.A.in1) (I.ok.hd hc) (N + 1) l hne its.toArray) hz hTI hTO h1 ⟨h2, pl.isList⟩ hg1 (by rw [hsz]; exact hg2) (by rw [hsz]; exact hg3) fun h' tk hk =>
      ⟨rfl, I.turnedL (t' := tk) (ch := fpZ N) (fun e o ne l => hk e o (fun r => ne (by simp [r])) (fun r => ne (by simp [r])) (fun r => ne (by simp [r])) (fun r => ne (by simp [r])) l) hf⟩
  self := fun A i s Q E st h => wpAny_pyIter_zip st.z h
def iZipM (K : PySem.W.Frag) (ta : TA) : TI := fun σ H R => ta σ H fun vs H1 => ∃ (x : Str) (l : Addr) (xs : List V), vs = [.str x, .ref l] ∧ SqL K H1 l xs ∧ R (ItZm K x l) H1
theorem kpi_zipM {X : Cx} {e e2 : Expr} {ta : TA} {p pos tpos : Pos} {elts : List Expr} {kk : Nat} (K : PySem.W.Frag) (hK : X.K = K) (hg : Gl X "zip") (hm : X.mg "zip" = none) (ha : PA X [e, e2] ta)
    (hs : starEach [e, e2] X.env = (false, eval e X.env) :: starEach [e2] X.env := by rfl) (hpl : (backTo pos (starEach [e2] X.env)).any (·.1) = false := by rfl) :
    PI X (.Tuple elts kk tpos) (.Call (.Name "zip" p) [e, e2] [] pos) (iZipM K ta) := by
  subst hK
  refine ⟨fun pins s σ H R I h => Call_ (ld_blt I hg hm boot_zip (PyProof.Rows.callWith_type1 (thn (ha.run pos pins s σ H _ I h) fun us s1 ⟨vs, H1, I1, r1, x, l, xs, ex, hq, q⟩ => ?_) hs hpl))⟩
  subst ex
  cases r1 with
  | cons r rr =>
    cases rr with
    | cons r' rr =>
      cases rr
      obtain ⟨t, rfl⟩ := r
      cases r'
      obtain ⟨its, rv, pl, hzl0⟩ := I1.list hq
      refine zip_begins2 (begins_text x t) (begins_list l its.toArray) trivial pl.isList fun h' hz hTI hTO g1 g2 hsz hk => wpAny_pyIter_zip hz ?_
      have I2 : Inv X pins σ H1 { s1 with heap := h' } := I1.kept (t' := s1.toks) hk
      have hlN : l < s1.heap.objs.size := let ⟨o, ho, _⟩ := pl.isList; Heap.lt_size ho
      refine ⟨_, fpZ s1.heap.objs.size, _, _, H1, rfl, I2, turn_zipM x l t s1.heap.objs.size hlN, ⟨hz, hTI, ⟨_, _, hTO⟩, ⟨_, g1, rfl, rfl⟩, ⟨_, g2, rfl, rfl⟩⟩, fun c hc => ?_, q⟩
      have hle : s1.heap.objs.size ≤ c := by
        rcases five hc with r | r | r | r | r <;> subst r <;> show (_ : Nat) ≤ _ <;> omega
      exact I1.fpOk hle (I1.hok.fresh hle)
def zipM : List PD → R (List PD)
  | [.str x, .list ds] => .ok (zipD (signL x) ds)
  | _ => .stuck
section
variable [Tabl] {C : Cn}
theorem ei_zipM {ta : TA} {fa : En → R (List PD)} (h : EdA C ta fa) : EdI C (iZipM C.K ta) (dItA zipM fa) := fun H0 ext reg en σ H rs Q w =>
  h.seq rs (W := WrI C (own ext reg) H Q) w (fun _ q => q) (fun q => q) fun x v H2 e2 r2 h2 w2 => by
    unfold zipM at w2
    split at w2
    · rename_i x ds
      cases h2 with
      | cons hv h2 =>
        cases h2 with
        | cons hu h2 =>
          cases h2
          cases hv
          cases hu with
          | lst hp hr =>
            rename_i l xs
            refine ⟨x, l, xs, rfl, SqL.of (hid_some hp).2, w2 _ H2 e2 fun Z H' e' hz i => ⟨fun d hd => ?_, fun hl => ?_⟩⟩
            · have hq : SqL C.K H' l xs := SqL.of (hid_some (e'.l hp)).2
              obtain ⟨a, b, ha, hb, rfl⟩ := zipD_get hd
              obtain ⟨c, hc, rfl⟩ := signL_get ha
              obtain ⟨y, hy, ry⟩ := hr.get hb
              refine ⟨⟨xs, hq, (Array.getElem?_eq_some_iff.mp hc).1, (List.getElem?_eq_some_iff.mp hy).1⟩, ?_⟩
              rintro z H'' ⟨T, c', y', rfl, nT, hc', hy', rfl⟩
              obtain rfl := Option.some.inj (hc.symm.trans hc')
              obtain rfl := Option.some.inj (hy.symm.trans (hy' xs hq))
              exact ⟨Xt.new nT, Rp.newT hz nT (.cons (.str _) (.cons (ry.mono e'.le) .nil))⟩
            · have hq : SqL C.K H' l xs := SqL.of (hid_some (e'.l hp)).2
              unfold zipD at hl
              rw [List.length_map, List.length_zip, signL_len] at hl
              have := hr.length
              refine ⟨xs, hq, ?_⟩
              show i ≤ _ ∧ i ≤ _ ∧ (i = _ ∨ i = _)
              omega
    · exact w2.elim
/-! ### tuple(list) -/
def tupD : List PD → R PD
  | [.list ds] => .ok (.tuple ds)
  | _ => .stuck
def rTupOf (K : PySem.W.Frag) : List V → Hp → VK → Prop := fun xs H Q => ∃ p ys, xs = [.ref p] ∧ ((SqL K H p ys ∧ ∀ l, H l = none → Q (.ref l) (upd H l (.tup ys))) ∨ (SqT K H p ys ∧ Q (.ref p) H))
theorem kx_tuple {X : Cx} (K : PySem.W.Frag) (h : X.K = K) : CallR X (.type "tuple") (rTupOf K) := by
  subst h
  exact call_tuple_of
theorem n_tuple : OpN C (rTupOf C.K) tupD := fun Y Z H vs xs Q hyz hz hx q => by
  unfold tupD at q
  split at q
  · rename_i ds
    obtain ⟨v, rfl, h⟩ := hx.one
    obtain ⟨p, ys, rfl, hp, hr⟩ := h.lst hyz
    exact ⟨p, ys, rfl, .inl ⟨SqL.of hp, fun l hl => q _ _ (Xt.new hl) (Rp.newT hz hl hr)⟩⟩
  · exact q.elim
end
section
variable {prog : Program} {w : World} {A : Around} {E : Value → Shared → Prop} {s : Shared}
theorem call_set_text {x : Str} {tt : Tok} {xs : List Str} {Q : Value → Shared → Prop}
    (hh : A.handled = none) (hxs : xs = x.cps.toList.map fun c => ⟨#[c]⟩) (hn1 : xs.length + 1 < scanBound)
    (h : ∀ (h' : Heap) (tk : Nat), h'.SetOf (PySem.strKind prog w) s.heap.objs.size (fun k' => (xs.take x.cps.size).any (· == k')) (unlike xs x.cps.size) →
      (∀ b o, b < s.heap.objs.size → s.heap.get? b = some o → h'.get? b = some o) → Q (.ref s.heap.objs.size) { s with heap := h', toks := tk }) :
    wpAny (model prog w) A (call (.type "set") [.str x tt]) Q E s := by
  obtain ⟨c, tl, hmro⟩ := PySem.F.called_set.mro
  have hmade := PySem.F.called_set.made
  have hsub := PySem.F.called_set.sub
  refine wpAny_call (codeAny_of_tree ?_)
  show wpAny _ _ (callAny (.type "set") _) _ _ _
  refine wpAny_pure ⟨Code.quiet_builtin _ (by decide +kernel), codeAny_builtin PySem.F.entry_type_call ?_⟩
  rw [Around.under_plain (weight_type_call_type "set" [.str x tt] []) rfl]
  have h1 := PySem.F.called_set.notType
  have h2 := PySem.F.called_set.canCreate
  have hct := PySem.F.typeCall_set_1 (.str x tt)
  repeat (any_goals (first | assumption | wp_step))
  refine codeAny_mono (code_set_new_1 (.str x tt) (E := E) (Q₁ := fun obj s₁ => ∃ led : Bool, obj = .ref s.heap.objs.size ∧ s₁ = { s with heap := s.heap.push { cls := .type "set", dict := none, data := .set #[] 0 (.fresh 0 0 led) } }) fun led => ⟨led, rfl, rfl⟩) fun r s₁ hr => ?_
  cases r with
  | error e => exact hr
  | ok fl =>
    cases fl with
    | ret obj =>
      obtain ⟨led, rfl, rfl⟩ := hr
      have hS : (s.heap.push { cls := .type "set", dict := none, data := .set #[] 0 (.fresh 0 0 led) }).get? s.heap.objs.size = some { cls := .type "set", dict := none, data := .set #[] 0 (.fresh 0 0 led) } := Heap.get?_push_size _ rfl
      have hT : Shared.TypeIs { s with heap := s.heap.push { cls := .type "set", dict := none, data := .set #[] 0 (.fresh 0 0 led) } } (.ref s.heap.objs.size) "set" := ⟨_, hS, rfl⟩
      have hli := PySem.F.called_set.init.lookup
      have hbi := PySem.F.called_set.init.bind (.ref s.heap.objs.size)
      repeat (any_goals (first | assumption | wp_step))
      refine codeAny_mono (codeAny_call_builtin (R := wants (fun r s₂ => r = .none ∧ ∃ h' tk, s₂ = { s with heap := h', toks := tk } ∧
          h'.SetOf (PySem.strKind prog w) s.heap.objs.size (fun k' => (xs.take x.cps.size).any (· == k')) (unlike xs x.cps.size) ∧
          (∀ b o, b < s.heap.objs.size → s.heap.get? b = some o → h'.get? b = some o)) E) PySem.F.called_set.init.plain PySem.F.entry_set_init (check_set_init_1 hT ?_)) fun r₂ s₂ hr₂ => ?_
      · have hsls := PySem.F.sub_str_set
        have hslf := PySem.F.sub_str_frozenset
        have hne : (Value.type "str" == Value.type "dict") = false := by decide
        unfold Builtin.«set.__init__» noKeywords Builtin.Frozenset.updateFrom
        generalize hPI : pyIter = PI
        wp_walk
        subst hPI
        refine wpAny_pyIter_str fun oi St W st0 => ?_
        refine wpAny_bind (wpAny_runValue ?_)
        have hh3 : A.in1.in1.in1.handled = none := by simp [hh]
        have hSf : s.heap.objs.size ∉ [(s.heap.push { cls := .type "set", dict := none, data := .set #[] 0 (.fresh 0 0 led) }).objs.size] := by
          rw [Heap.size_push]; simp only [List.mem_cons, List.mem_singleton, List.not_mem_nil, or_false, not_or]
          exact Nat.ne_of_lt (Nat.lt_succ_self _)
        have hsz : xs.length = x.cps.size := by rw [hxs]; simp
        have hval : ∀ (i : Nat) (v : Value), SignAt x i v → ∃ t, v = .str (xs.getD i Str.empty) t := fun i v hv => by
          obtain ⟨c, u, hc, rfl⟩ := hv
          refine ⟨u, ?_⟩
          rw [hxs, List.getD_eq_getElem?_getD, List.getElem?_map, Array.getElem?_toList, hc]
          rfl
        refine loopTexts ((W _ hh3).toS) s.heap.objs.size
          hSf xs hsz (by rw [← hsz]; exact hn1) hval (x.cps.size - 0) 0 _ (by omega) (Nat.zero_le _)
          st0 ?hS0 ?hR
        case hS0 =>
          have hget : ((s.heap.push { cls := .type "set", dict := none, data := .set #[] 0 (.fresh 0 0 led) }).push oi).get? s.heap.objs.size
              = some { cls := .type "set", dict := none, data := .set #[] 0 (.fresh 0 0 led) } := Heap.get?_push_of_some _ hS
          exact PyProof.Rows.SetOf_congr ((PyProof.Rows.setObjOf_fresh (knd := PySem.strKind prog w) led).setOf hget (by unfold scanBound; omega)) (fun _ => rfl) rfl
        case hR =>
          intro s' hm hS'
          obtain ⟨h', g', d', tk', os'⟩ := s'
          have eg : g' = s.gens := hm.gens
          have ed : d' = s.drawn := hm.drawn
          have eo : os' = s.os := hm.os
          subst eg; subst ed; subst eo
          show wpAny _ _ _ _ _ _
          refine wpAny_pure ?_
          show wpAny _ _ (ret Value.none) _ _ _
          refine wpAny_pure ⟨rfl, h', tk', rfl, hS', fun b o hb e => ?_⟩
          have hb1 : b ≠ s.heap.objs.size := Nat.ne_of_lt hb
          have hb2 : b ≠ (s.heap.push { cls := .type "set", dict := none, data := .set #[] 0 (.fresh 0 0 led) }).objs.size := by
            rw [Heap.size_push]; exact Nat.ne_of_lt (Nat.lt_succ_of_lt hb)
          exact hm.heap b o (by simp only [List.mem_cons, List.mem_singleton, List.not_mem_nil, or_false, not_or]; exact ⟨hb1, hb2⟩) (Heap.get?_push_of_some _ (Heap.get?_push_of_some _ e))
      · cases r₂ with
        | error e => exact hr₂
        | ok fl₂ =>
          cases fl₂ with
          | ret r =>
            obtain ⟨rfl, h', tk, rfl, hS', hk'⟩ := hr₂
            repeat (any_goals (first | assumption | wp_step))
            exact h _ _ hS' hk'
          | _ => exact hr₂.elim
    | _ => exact hr.elim
end
/-! ### len(set(text)) -/
def tLenT (ta : TE) : TE := fun σ H Q => ta σ H fun x H1 => ∃ z : Str, x = .str z ∧ z.cps.size < 2000 ∧ Q (.int (unlike (z.cps.toList.map fun c => ⟨#[c]⟩) z.cps.size : Nat)) H1
theorem pe_lenT {X : Cx} {a : Expr} {ta : TE} {p p2 q pos : Pos} (hc : X.calm = true) (hg : Gl X "len") (hm : X.mg "len" = none) (hg2 : Gl X "set") (hm2 : X.mg "set" = none) (ha : PE X a ta)
    (na : starEach [a] X.env = (false, eval a X.env) :: starEach [] X.env := by rfl) : PE X (.Call (.Name "len" p) [.Call (.Name "set" p2) [a] [] q] [] pos) (tLenT ta) := by
  refine ⟨fun pins s σ H Q I h => ?_⟩
  refine Call_ (ld_blt I hg hm boot_len ?_)
  refine PyProof.Rows.callWith_builtin1 (PyProof.Rows.args_cons ?_ rfl) rfl rfl
  refine Call_ (ld_blt I hg2 hm2 boot_set ?_)
  refine PyProof.Rows.callWith_type1 (PyProof.Rows.args_cons (thn (ha.run pins s σ H _ I h) fun v s1 ⟨x, H1, I1, r1, q1⟩ => PyProof.Rows.args_nil ?_) na) na rfl
  obtain ⟨z, rfl, hz, q1⟩ := q1
  obtain ⟨tt, rfl⟩ := r1
  refine call_set_text (I1.ok.hd hc) rfl (by rw [List.length_map, Array.length_toList]; unfold scanBound; omega) fun h' tk hS hk => ?_
  refine PyProof.Rows.args_nil ?_
  obtain ⟨o, es, ep, t, ho, hex, hd, _, _, _, hf, hn⟩ := hS
  have I2 : Inv X pins σ H1 { s1 with heap := h', toks := tk } := I1.kept fun b o e => hk b o (Heap.lt_size e) e
  have hu := unlike_le (z.cps.toList.map fun c => (⟨#[c]⟩ : Str)) z.cps.size
  exact call_len_set ho hex hd hf (by rw [hn]; omega) ⟨.int (unlike (z.cps.toList.map fun c => ⟨#[c]⟩) z.cps.size : Nat), H1, I2.tok _, ⟨_, by rw [hn]⟩, q1⟩
variable [Tabl]
def lenT : PD → R PD
  | .str z => if z.cps.size < 2000 then .ok (.int (unlike (z.cps.toList.map fun c => ⟨#[c]⟩) z.cps.size : Nat)) else .stuck
  | _ => .stuck
theorem ed_lenT {C : Cn} {ta : TE} {fa : En → R PD} (h : EdL C ta fa) : EdS C (tLenT ta) (d1 lenT fa) := fun H0 ext reg en σ H rs Q w =>
  h.seq rs (W := WrS C (own ext reg) H Q) w (fun _ q => q) (fun q => q) fun x v H2 e2 r2 h2 w2 => by
    unfold lenT at w2
    split at w2
    · rename_i z
      split at w2
      · rename_i hl
        obtain rfl := h2.str
        exact ⟨z, rfl, hl, w2 _ H2 e2 (.int _)⟩
      · exact w2.elim
    · exact w2.elim
end Dn

namespace Tk
open PySem L2 Dn

def excs : List Str := ["BadManner", "BadCode", "BadHand", "BadNumber"]
def excw : List Str := ["BadBook", "BadSign", "BadCode", "BadText", "BadNumber", "BadRuns", "BadManner", "BadHand"]

def nm_Keyer : List Str := ["manner", "speed", "element", "tone_left", "gap_left", "ahead", "is_squeezed", "held", "rows", "clock"]
theorem nd_Keyer : nm_Keyer.Nodup := by decide +kernel
def topS (i : Nat) : Stmt := PySem.Challenge.pw_twokeys_k52_whole_holds_played.main.body.getD i (.Pass ⟨0, 0, 0, 0⟩)
abbrev s_is_code : Stmt := topS 13
abbrev s_is_count : Stmt := topS 17
abbrev s_tone_long : Stmt := topS 20
abbrev s_gap_long : Stmt := topS 21
abbrev s_need_manner : Stmt := topS 25
abbrev s_other_one : Stmt := topS 26
abbrev s_Keyer_made : Stmt := inClass (topS 27) 7
abbrev s_are_keys : Stmt := topS 28
abbrev s_presses : Stmt := topS 37
abbrev s__law_cell : Stmt := topS 43
abbrev s__law_drawn : Stmt := topS 44
abbrev s__law_word : Stmt := topS 45
abbrev s__law_told : Stmt := topS 46
abbrev s__law_code : Stmt := topS 47
abbrev s__law_speed : Stmt := topS 48
abbrev s__law_tone : Stmt := topS 49
abbrev s_need_code : Stmt := topS 14
abbrev s_is_speed : Stmt := topS 18
abbrev s_Keyer_wish : Stmt := inClass (topS 27) 2
abbrev s_Keyer_note : Stmt := inClass (topS 27) 4
abbrev s_need_hand : Stmt := topS 29
abbrev s_comes : Stmt := topS 36
abbrev s_need_speed : Stmt := topS 19
abbrev s_Keyer_begin : Stmt := inClass (topS 27) 5
abbrev s_Keyer_is_at_rest : Stmt := inClass (topS 27) 6
abbrev s_holds_for : Stmt := topS 38
abbrev s_Keyer___init__ : Stmt := inClass (topS 27) 0
abbrev s_Keyer_step : Stmt := inClass (topS 27) 3
abbrev s_look_at : Stmt := topS 30
abbrev s_fewest : Stmt := topS 39
abbrev s_holds : Stmt := topS 40
abbrev s_spread : Stmt := topS 41
abbrev s_keyed : Stmt := topS 31
abbrev s_played : Stmt := topS 32
abbrev s_all_made : Stmt := topS 33
abbrev s_law : Stmt := topS 50
structure Ads where
  is_code : Addr
  is_count : Addr
  tone_long : Addr
  gap_long : Addr
  need_manner : Addr
  other_one : Addr
  Keyer_made : Addr
  are_keys : Addr
  presses : Addr
  _law_cell : Addr
  _law_drawn : Addr
  _law_word : Addr
  _law_told : Addr
  _law_code : Addr
  _law_speed : Addr
  _law_tone : Addr
  need_code : Addr
  is_speed : Addr
  Keyer_wish : Addr
  Keyer_note : Addr
  need_hand : Addr
  comes : Addr
  need_speed : Addr
  Keyer_begin : Addr
  Keyer_is_at_rest : Addr
  holds_for : Addr
  Keyer___init__ : Addr
  Keyer_step : Addr
  look_at : Addr
  fewest : Addr
  holds : Addr
  spread : Addr
  keyed : Addr
  played : Addr
  all_made : Addr
  law : Addr
  cd_law : Addr
  tb_law : Addr
structure Fds where
  is_code : FuncData
  is_count : FuncData
  tone_long : FuncData
  gap_long : FuncData
  need_manner : FuncData
  other_one : FuncData
  Keyer_made : FuncData
  are_keys : FuncData
  presses : FuncData
  _law_cell : FuncData
  _law_drawn : FuncData
  _law_word : FuncData
  _law_told : FuncData
  _law_code : FuncData
  _law_speed : FuncData
  _law_tone : FuncData
  need_code : FuncData
  is_speed : FuncData
  Keyer_wish : FuncData
  Keyer_note : FuncData
  need_hand : FuncData
  comes : FuncData
  need_speed : FuncData
  Keyer_begin : FuncData
  Keyer_is_at_rest : FuncData
  holds_for : FuncData
  Keyer___init__ : FuncData
  Keyer_step : FuncData
  look_at : FuncData
  fewest : FuncData
  holds : FuncData
  spread : FuncData
  keyed : FuncData
  played : FuncData
  all_made : FuncData
  law : FuncData
def cv_MOST_CODE : PD := (.int 6)
def cv_MOST_UNIT : PD := (.int 9)
def cv_MANNERS : PD := (.tuple [(.str "plain"), (.str "a"), (.str "b")])
def cv_MOST_HAND : PD := (.int 600)
def cv_HOLDS : PD := (.tuple [(.tuple [(.bool false), (.bool false)]), (.tuple [(.bool false), (.bool true)]), (.tuple [(.bool true), (.bool false)]), (.tuple [(.bool true), (.bool true)])])
structure Txt (K : PySem.W.Frag) (mg : Str → Option Value) (cl ca : Str → Addr) (A : Ads) (D : Fds) : Prop where
  cl_Keyer : Cls K (ca "Keyer")
  g_Keyer : mg "Keyer" = some (.ref (ca "Keyer"))
  mk_Keyer : Mk K (ca "Keyer") A.Keyer___init__
  no_Keyer_manner : NoAttr K (ca "Keyer") "manner"
  no_Keyer_speed : NoAttr K (ca "Keyer") "speed"
  no_Keyer_element : NoAttr K (ca "Keyer") "element"
  no_Keyer_tone_left : NoAttr K (ca "Keyer") "tone_left"
  no_Keyer_gap_left : NoAttr K (ca "Keyer") "gap_left"
  no_Keyer_ahead : NoAttr K (ca "Keyer") "ahead"
  no_Keyer_is_squeezed : NoAttr K (ca "Keyer") "is_squeezed"
  no_Keyer_held : NoAttr K (ca "Keyer") "held"
  no_Keyer_rows : NoAttr K (ca "Keyer") "rows"
  no_Keyer_clock : NoAttr K (ca "Keyer") "clock"
  z_ValueError : mg "ValueError" = none
  z_all : mg "all" = none
  z_bool : mg "bool" = none
  z_int : mg "int" = none
  z_isinstance : mg "isinstance" = none
  z_len : mg "len" = none
  z_list : mg "list" = none
  z_max : mg "max" = none
  z_min : mg "min" = none
  z_range : mg "range" = none
  z_set : mg "set" = none
  z_str : mg "str" = none
  z_sum : mg "sum" = none
  z_tuple : mg "tuple" = none
  z_zip : mg "zip" = none
  F_is_code : Fun K "is_code" "is_code" s_is_code A.is_code D.is_code
  g_is_code : mg "is_code" = some (.ref A.is_code)
  b_is_code : Binds K D.is_code ["thing"] []
  F_is_count : Fun K "is_count" "is_count" s_is_count A.is_count D.is_count
  g_is_count : mg "is_count" = some (.ref A.is_count)
  b_is_count : Binds K D.is_count ["thing", "low", "high"] []
  F_tone_long : Fun K "tone_long" "tone_long" s_tone_long A.tone_long D.tone_long
  g_tone_long : mg "tone_long" = some (.ref A.tone_long)
  b_tone_long : Binds K D.tone_long ["speed", "element"] []
  F_gap_long : Fun K "gap_long" "gap_long" s_gap_long A.gap_long D.gap_long
  g_gap_long : mg "gap_long" = some (.ref A.gap_long)
  b_gap_long : Binds K D.gap_long ["speed", "units"] []
  F_need_manner : Fun K "need_manner" "need_manner" s_need_manner A.need_manner D.need_manner
  g_need_manner : mg "need_manner" = some (.ref A.need_manner)
  b_need_manner : Binds K D.need_manner ["manner"] []
  F_other_one : Fun K "other_one" "other_one" s_other_one A.other_one D.other_one
  g_other_one : mg "other_one" = some (.ref A.other_one)
  b_other_one : Binds K D.other_one ["element"] []
  F_Keyer_made : Fun K "made" "Keyer.made" s_Keyer_made A.Keyer_made D.Keyer_made
  m_Keyer_made : Meth K (ca "Keyer") "made" A.Keyer_made
  b_Keyer_made : Binds K D.Keyer_made ["self"] []
  F_are_keys : Fun K "are_keys" "are_keys" s_are_keys A.are_keys D.are_keys
  g_are_keys : mg "are_keys" = some (.ref A.are_keys)
  b_are_keys : Binds K D.are_keys ["thing"] []
  F_presses : Fun K "presses" "presses" s_presses A.presses D.presses
  g_presses : mg "presses" = some (.ref A.presses)
  b_presses : Binds K D.presses ["before", "held"] []
  F__law_cell : Fun K "_law_cell" "_law_cell" s__law_cell A._law_cell D._law_cell
  g__law_cell : mg "_law_cell" = some (.ref A._law_cell)
  b__law_cell : Binds K D._law_cell ["script", "k"] []
  F__law_drawn : Fun K "_law_drawn" "_law_drawn" s__law_drawn A._law_drawn D._law_drawn
  g__law_drawn : mg "_law_drawn" = some (.ref A._law_drawn)
  b__law_drawn : Binds K D._law_drawn ["cell", "k"] []
  F__law_word : Fun K "_law_word" "_law_word" s__law_word A._law_word D._law_word
  g__law_word : mg "_law_word" = some (.ref A._law_word)
  b__law_word : Binds K D._law_word ["e"] []
  F__law_told : Fun K "_law_told" "_law_told" s__law_told A._law_told D._law_told
  g__law_told : mg "_law_told" = some (.ref A._law_told)
  b__law_told : Binds K D._law_told ["deed"] []
  F__law_code : Fun K "_law_code" "_law_code" s__law_code A._law_code D._law_code
  g__law_code : mg "_law_code" = some (.ref A._law_code)
  b__law_code : Binds K D._law_code ["number"] []
  F__law_speed : Fun K "_law_speed" "_law_speed" s__law_speed A._law_speed D._law_speed
  g__law_speed : mg "_law_speed" = some (.ref A._law_speed)
  b__law_speed : Binds K D._law_speed ["more"] []
  F__law_tone : Fun K "_law_tone" "_law_tone" s__law_tone A._law_tone D._law_tone
  g__law_tone : mg "_law_tone" = some (.ref A._law_tone)
  b__law_tone : Binds K D._law_tone ["speed", "element"] []
  F_need_code : Fun K "need_code" "need_code" s_need_code A.need_code D.need_code
  g_need_code : mg "need_code" = some (.ref A.need_code)
  b_need_code : Binds K D.need_code ["code"] []
  F_is_speed : Fun K "is_speed" "is_speed" s_is_speed A.is_speed D.is_speed
  g_is_speed : mg "is_speed" = some (.ref A.is_speed)
  b_is_speed : Binds K D.is_speed ["thing"] []
  F_Keyer_wish : Fun K "wish" "Keyer.wish" s_Keyer_wish A.Keyer_wish D.Keyer_wish
  m_Keyer_wish : Meth K (ca "Keyer") "wish" A.Keyer_wish
  b_Keyer_wish : Binds K D.Keyer_wish ["self", "left", "right"] []
  F_Keyer_note : Fun K "note" "Keyer.note" s_Keyer_note A.Keyer_note D.Keyer_note
  m_Keyer_note : Meth K (ca "Keyer") "note" A.Keyer_note
  b_Keyer_note : Binds K D.Keyer_note ["self", "left", "right"] []
  F_need_hand : Fun K "need_hand" "need_hand" s_need_hand A.need_hand D.need_hand
  g_need_hand : mg "need_hand" = some (.ref A.need_hand)
  b_need_hand : Binds K D.need_hand ["hand"] []
  F_comes : Fun K "comes" "comes" s_comes A.comes D.comes
  g_comes : mg "comes" = some (.ref A.comes)
  b_comes : Binds K D.comes ["manner", "before", "held", "last"] []
  F_need_speed : Fun K "need_speed" "need_speed" s_need_speed A.need_speed D.need_speed
  g_need_speed : mg "need_speed" = some (.ref A.need_speed)
  b_need_speed : Binds K D.need_speed ["speed"] []
  F_Keyer_begin : Fun K "begin" "Keyer.begin" s_Keyer_begin A.Keyer_begin D.Keyer_begin
  m_Keyer_begin : Meth K (ca "Keyer") "begin" A.Keyer_begin
  b_Keyer_begin : Binds K D.Keyer_begin ["self", "left", "right"] []
  F_Keyer_is_at_rest : Fun K "is_at_rest" "Keyer.is_at_rest" s_Keyer_is_at_rest A.Keyer_is_at_rest D.Keyer_is_at_rest
  m_Keyer_is_at_rest : Meth K (ca "Keyer") "is_at_rest" A.Keyer_is_at_rest
  b_Keyer_is_at_rest : Binds K D.Keyer_is_at_rest ["self"] []
  F_holds_for : Fun K "holds_for" "holds_for" s_holds_for A.holds_for D.holds_for
  g_holds_for : mg "holds_for" = some (.ref A.holds_for)
  b_holds_for : Binds K D.holds_for ["manner", "code"] []
  F_Keyer___init__ : Fun K "__init__" "Keyer.__init__" s_Keyer___init__ A.Keyer___init__ D.Keyer___init__
  b_Keyer___init__ : Binds K D.Keyer___init__ ["self", "manner", "speed"] []
  F_Keyer_step : Fun K "step" "Keyer.step" s_Keyer_step A.Keyer_step D.Keyer_step
  m_Keyer_step : Meth K (ca "Keyer") "step" A.Keyer_step
  b_Keyer_step : Binds K D.Keyer_step ["self", "left", "right"] []
  F_look_at : Fun K "look_at" "look_at" s_look_at A.look_at D.look_at
  g_look_at : mg "look_at" = some (.ref A.look_at)
  b_look_at : Binds K D.look_at ["manner", "speed", "hand"] []
  F_fewest : Fun K "fewest" "fewest" s_fewest A.fewest D.fewest
  g_fewest : mg "fewest" = some (.ref A.fewest)
  b_fewest : Binds K D.fewest ["manner", "code"] []
  F_holds : Fun K "holds" "holds" s_holds A.holds D.holds
  g_holds : mg "holds" = some (.ref A.holds)
  b_holds : Binds K D.holds ["manner", "code"] []
  F_spread : Fun K "spread" "spread" s_spread A.spread D.spread
  g_spread : mg "spread" = some (.ref A.spread)
  b_spread : Binds K D.spread ["code", "some", "speed"] []
  F_keyed : Fun K "keyed" "keyed" s_keyed A.keyed D.keyed
  g_keyed : mg "keyed" = some (.ref A.keyed)
  b_keyed : Binds K D.keyed ["manner", "speed", "hand"] []
  F_played : Fun K "played" "played" s_played A.played D.played
  g_played : mg "played" = some (.ref A.played)
  b_played : Binds K D.played ["manner", "speed", "hand"] []
  F_all_made : Fun K "all_made" "all_made" s_all_made A.all_made D.all_made
  g_all_made : mg "all_made" = some (.ref A.all_made)
  b_all_made : Binds K D.all_made ["manner", "speed", "hand"] []
  F_law : FunC K "law" "law" s_law A.law D.law A.cd_law
  g_law : mg "law" = some (.ref A.law)
  b_law : Binds K D.law ["script"] []
  ge_BadManner : mg "BadManner" = some (.ref (cl "BadManner"))
  x_BadManner : PySem.W.excIn K (cl "BadManner") [.type "ValueError", .type "Exception", .type "BaseException", .type "object"] "ValueError.__new__" = true
  k_BadManner : PySem.W.keepIn K (.ref (cl "BadManner")) = true
  eb_BadManner : PySem.W.subIn K (.ref (cl "BadManner")) (.type "BaseException") = some true
  t_BadManner : PySem.W.typeIn K (.ref (cl "BadManner")) = some (.type "type")
  ge_BadCode : mg "BadCode" = some (.ref (cl "BadCode"))
  x_BadCode : PySem.W.excIn K (cl "BadCode") [.type "ValueError", .type "Exception", .type "BaseException", .type "object"] "ValueError.__new__" = true
  k_BadCode : PySem.W.keepIn K (.ref (cl "BadCode")) = true
  eb_BadCode : PySem.W.subIn K (.ref (cl "BadCode")) (.type "BaseException") = some true
  t_BadCode : PySem.W.typeIn K (.ref (cl "BadCode")) = some (.type "type")
  ge_BadHand : mg "BadHand" = some (.ref (cl "BadHand"))
  x_BadHand : PySem.W.excIn K (cl "BadHand") [.type "ValueError", .type "Exception", .type "BaseException", .type "object"] "ValueError.__new__" = true
  k_BadHand : PySem.W.keepIn K (.ref (cl "BadHand")) = true
  eb_BadHand : PySem.W.subIn K (.ref (cl "BadHand")) (.type "BaseException") = some true
  t_BadHand : PySem.W.typeIn K (.ref (cl "BadHand")) = some (.type "type")
  ge_BadNumber : mg "BadNumber" = some (.ref (cl "BadNumber"))
  x_BadNumber : PySem.W.excIn K (cl "BadNumber") [.type "ValueError", .type "Exception", .type "BaseException", .type "object"] "ValueError.__new__" = true
  k_BadNumber : PySem.W.keepIn K (.ref (cl "BadNumber")) = true
  eb_BadNumber : PySem.W.subIn K (.ref (cl "BadNumber")) (.type "BaseException") = some true
  t_BadNumber : PySem.W.typeIn K (.ref (cl "BadNumber")) = some (.type "type")
  ge_BadBook : mg "BadBook" = some (.ref (cl "BadBook"))
  ge_BadSign : mg "BadSign" = some (.ref (cl "BadSign"))
  ge_BadText : mg "BadText" = some (.ref (cl "BadText"))
  ge_BadRuns : mg "BadRuns" = some (.ref (cl "BadRuns"))
  ge_KeysError : mg "KeysError" = some (.ref (cl "KeysError"))
  word : ∀ c ∈ excs, WordT K cl excw (cl "KeysError") c
  c_MOST_CODE : KC K mg "MOST_CODE" (.int 6)
  c_MOST_UNIT : KC K mg "MOST_UNIT" (.int 9)
  c_MANNERS : KT K mg "MANNERS" cv_MANNERS
  c_MOST_HAND : KC K mg "MOST_HAND" (.int 600)
  c_HOLDS : KT K mg "HOLDS" cv_HOLDS
theorem Txt.f_Keyer_manner {K : PySem.W.Frag} {mg : Str → Option Value} {cl ca : Str → Addr} {A : Ads} {D : Fds} (T : Txt K mg cl ca A D) : ClF K (ca "Keyer") nm_Keyer 0 "manner" := ⟨T.cl_Keyer, T.no_Keyer_manner, nd_Keyer, rfl⟩
theorem Txt.f_Keyer_speed {K : PySem.W.Frag} {mg : Str → Option Value} {cl ca : Str → Addr} {A : Ads} {D : Fds} (T : Txt K mg cl ca A D) : ClF K (ca "Keyer") nm_Keyer 1 "speed" := ⟨T.cl_Keyer, T.no_Keyer_speed, nd_Keyer, rfl⟩
theorem Txt.f_Keyer_element {K : PySem.W.Frag} {mg : Str → Option Value} {cl ca : Str → Addr} {A : Ads} {D : Fds} (T : Txt K mg cl ca A D) : ClF K (ca "Keyer") nm_Keyer 2 "element" := ⟨T.cl_Keyer, T.no_Keyer_element, nd_Keyer, rfl⟩
theorem Txt.f_Keyer_tone_left {K : PySem.W.Frag} {mg : Str → Option Value} {cl ca : Str → Addr} {A : Ads} {D : Fds} (T : Txt K mg cl ca A D) : ClF K (ca "Keyer") nm_Keyer 3 "tone_left" := ⟨T.cl_Keyer, T.no_Keyer_tone_left, nd_Keyer, rfl⟩
theorem Txt.f_Keyer_gap_left {K : PySem.W.Frag} {mg : Str → Option Value} {cl ca : Str → Addr} {A : Ads} {D : Fds} (T : Txt K mg cl ca A D) : ClF K (ca "Keyer") nm_Keyer 4 "gap_left" := ⟨T.cl_Keyer, T.no_Keyer_gap_left, nd_Keyer, rfl⟩
theorem Txt.f_Keyer_ahead {K : PySem.W.Frag} {mg : Str → Option Value} {cl ca : Str → Addr} {A : Ads} {D : Fds} (T : Txt K mg cl ca A D) : ClF K (ca "Keyer") nm_Keyer 5 "ahead" := ⟨T.cl_Keyer, T.no_Keyer_ahead, nd_Keyer, rfl⟩
theorem Txt.f_Keyer_is_squeezed {K : PySem.W.Frag} {mg : Str → Option Value} {cl ca : Str → Addr} {A : Ads} {D : Fds} (T : Txt K mg cl ca A D) : ClF K (ca "Keyer") nm_Keyer 6 "is_squeezed" := ⟨T.cl_Keyer, T.no_Keyer_is_squeezed, nd_Keyer, rfl⟩
theorem Txt.f_Keyer_held {K : PySem.W.Frag} {mg : Str → Option Value} {cl ca : Str → Addr} {A : Ads} {D : Fds} (T : Txt K mg cl ca A D) : ClF K (ca "Keyer") nm_Keyer 7 "held" := ⟨T.cl_Keyer, T.no_Keyer_held, nd_Keyer, rfl⟩
theorem Txt.f_Keyer_rows {K : PySem.W.Frag} {mg : Str → Option Value} {cl ca : Str → Addr} {A : Ads} {D : Fds} (T : Txt K mg cl ca A D) : ClF K (ca "Keyer") nm_Keyer 8 "rows" := ⟨T.cl_Keyer, T.no_Keyer_rows, nd_Keyer, rfl⟩
theorem Txt.f_Keyer_clock {K : PySem.W.Frag} {mg : Str → Option Value} {cl ca : Str → Addr} {A : Ads} {D : Fds} (T : Txt K mg cl ca A D) : ClF K (ca "Keyer") nm_Keyer 9 "clock" := ⟨T.cl_Keyer, T.no_Keyer_clock, nd_Keyer, rfl⟩
theorem Txt.r_MOST_CODE {K : PySem.W.Frag} {mg : Str → Option Value} {cl ca : Str → Addr} {A : Ads} {D : Fds} (_ : Txt K mg cl ca A D) {V0 : V} (h : V0 = (.int 6) := by rfl) : ∀ H, Rp K H V0 cv_MOST_CODE := fun H => by rw [h]; exact .int _
theorem Txt.r_MOST_UNIT {K : PySem.W.Frag} {mg : Str → Option Value} {cl ca : Str → Addr} {A : Ads} {D : Fds} (_ : Txt K mg cl ca A D) {V0 : V} (h : V0 = (.int 9) := by rfl) : ∀ H, Rp K H V0 cv_MOST_UNIT := fun H => by rw [h]; exact .int _
theorem Txt.r_MOST_HAND {K : PySem.W.Frag} {mg : Str → Option Value} {cl ca : Str → Addr} {A : Ads} {D : Fds} (_ : Txt K mg cl ca A D) {V0 : V} (h : V0 = (.int 600) := by rfl) : ∀ H, Rp K H V0 cv_MOST_HAND := fun H => by rw [h]; exact .int _
structure Tbq [Tabl] (base : Heap) (mg : Str → Option Value) (A : Ads) : Prop where
  t_law : LamX.TabB base mg A.cd_law A.tb_law
  m_law : (A.tb_law, ((PyProof.Rows.envOfC "law" (defScope s_law) 0 0 .none).qual ++ "<lambda>")) ∈ Tabl.T
  u_law : ∀ q ∈ Tabl.T, q.1 = A.tb_law → q.2 = ((PyProof.Rows.envOfC "law" (defScope s_law) 0 0 .none).qual ++ "<lambda>")

def bd__law_word (c : Str) (a : Addr) : En → R Fl :=
    (sSeq (sAsg 1 (dN mkL (dCons (dIs 0 a (decide (c = "BadBook"))) (dCons (dIs 0 a (decide (c = "BadSign"))) (dCons (dIs 0 a (decide (c = "BadCode"))) (dCons (dIs 0 a (decide (c = "BadText"))) dNil))))))
    (sSeq (sAsg 1 (d2 addD (dVar 1) (dN mkL (dCons (dIs 0 a (decide (c = "BadNumber"))) (dCons (dIs 0 a (decide (c = "BadRuns"))) (dCons (dIs 0 a (decide (c = "BadManner"))) (dCons (dIs 0 a (decide (c = "BadHand"))) dNil)))))))
    (sSeq (sIf (dOr (dTest (d2 neD (dN sumD (dCons (d1 intsD (dVar 1)) dNil)) (dC (.int 1)))) (dNot (dTest (dIs 0 a true)))) (sRet (dC (.str "other"))) sNil)
    (sSeq (sAsg 2 (dN mkL (dCons (dC (.str "BadBook")) (dCons (dC (.str "BadSign")) (dCons (dC (.str "BadCode")) (dCons (dC (.str "BadText")) (dCons (dC (.str "BadNumber")) (dCons (dC (.str "BadRuns")) (dCons (dC (.str "BadManner")) (dCons (dC (.str "BadHand")) dNil))))))))))
    (sRet (d2 ixD (dVar 2) (dIdx (dVar 1) (dC (.bool true)))))))))

theorem word_all [Tabl] : ∀ c ∈ excs, ∀ a, runW 4 (bd__law_word c a) a = .ok (.str c) := by
  intro c hc a
  unfold excs at hc
  simp only [List.mem_cons, List.not_mem_nil, or_false] at hc
  rcases hc with rfl | rfl | rfl | rfl <;> (unfold runW bd__law_word; simp (decide := true) [intsD, asBools, Dn.bi, sumD, asInts, szN_eq, addD_li, idxD, idxF, flatD, eqF, ixD, atI, ixN])

def ce_is_code_1 : En → R PD :=
    (d2 (inD false) (dVar 1) (dC (.str ".-")))

def bd_is_code : En → R Fl :=
    (sRet (dAndV (d1 (isiD isStrD) (dVar 0)) (dAndV (dChain leD leD (dC (.int 1)) (dN lenD (dCons (dVar 0) dNil)) (dC cv_MOST_CODE)) (dN allD (dCons (dF (dLc (dIt signs (dVar 0)) (gN 1) dYes ce_is_code_1 [1])) dNil)))))

def dn_is_code : List PD → R PD := runB 2 (sNx bd_is_code)

def bd_is_count : En → R Fl :=
    (sRet (dAndV (d1 (isiD isIntD) (dVar 0)) (dAndV (d1 notD (d1 (isiD isBoolD) (dVar 0))) (dChain leD leD (dVar 1) (dVar 0) (dVar 2)))))

def dn_is_count : List PD → R PD := runB 3 (sNx bd_is_count)

def bd_tone_long : En → R Fl :=
    (sRet (d2 addD (d2 mulD (dIf (dTest (d2 eqD (dVar 1) (dC (.str ".")))) (dC (.int 1)) (dC (.int 3))) (d2 ixD (dVar 0) (dC (.int 0)))) (d2 ixD (dVar 0) (dC (.int 1)))))

def dn_tone_long : List PD → R PD := runB 2 (sNx bd_tone_long)

def bd_gap_long : En → R Fl :=
    (sRet (d2 subD (d2 mulD (dVar 1) (d2 ixD (dVar 0) (dC (.int 0)))) (d2 ixD (dVar 0) (dC (.int 1)))))

def dn_gap_long : List PD → R PD := runB 2 (sNx bd_gap_long)

def bd_need_manner : En → R Fl :=
    (sIf (dOr (dNot (dTest (d1 (isiD isStrD) (dVar 0)))) (dTest (d2 (inD true) (dVar 0) (dC cv_MANNERS)))) (sRaise "BadManner") sNil)

def dn_need_manner : List PD → R PD := runB 1 bd_need_manner

def bd_other_one : En → R Fl :=
    (sRet (dIf (dTest (d2 eqD (dVar 0) (dC (.str ".")))) (dC (.str "-")) (dC (.str "."))))

def dn_other_one : List PD → R PD := runB 1 (sNx bd_other_one)

def bd_Keyer_made : En → R Fl :=
    (sRetM (eS (dF (dNF listD (dCons (dFldL 0 "Keyer" nm_Keyer 8) dNil)))))

def mt_Keyer_made : List FV → List PD → RO := runM 1 "Keyer" nm_Keyer (sNx bd_Keyer_made)

def ce_are_keys_1 : En → R PD :=
    (d1 (isiD isBoolD) (dVar 1))

def bd_are_keys : En → R Fl :=
    (sRet (dAndV (d1 (isiD isTupD) (dVar 0)) (dAndV (d2 eqD (dN lenD (dCons (dVar 0) dNil)) (dC (.int 2))) (dN allD (dCons (dF (dLc (dIt asT (dVar 0)) (gN 1) dYes ce_are_keys_1 [1])) dNil)))))

def dn_are_keys : List PD → R PD := runB 2 (sNx bd_are_keys)

def bd_presses : En → R Fl :=
    (sRet (d2 addD (dN intD (dCons (dAndV (d2 ixD (dVar 1) (dC (.int 0))) (d1 notD (d2 ixD (dVar 0) (dC (.int 0))))) dNil)) (dN intD (dCons (dAndV (d2 ixD (dVar 1) (dC (.int 1))) (d1 notD (d2 ixD (dVar 0) (dC (.int 1))))) dNil))))

def dn_presses : List PD → R PD := runB 2 (sNx bd_presses)

def bd__law_drawn : En → R Fl :=
    (sSeq (sAsg 2 (d2 modD (d2 addD (d2 mulD (dVar 0) (dC (.int 6364136223846793005))) (d2 mulD (d2 addD (dVar 1) (dC (.int 1))) (dC (.int 1442695040888963407)))) (dC (.int 340282366920938463463374607431768211507))))
    (sSeq (sAsg 2 (d2 modD (d2 mulD (dVar 2) (dVar 2)) (dC (.int 340282366920938463463374607431768211297))))
    (sSeq (sAsg 2 (d2 mulD (d2 mulD (d2 addD (d2 modD (dVar 2) (dC (.int 18446744073709551557))) (dC (.int 1))) (d2 addD (d2 fdivD (dVar 2) (dC (.int 18446744073709551557))) (dC (.int 1)))) (dVar 2)))
    (sRet (d2 modD (dVar 2) (dC (.int 340282366920938463463374607431768211507)))))))

def dn__law_drawn : List PD → R PD := runB 3 (sNx bd__law_drawn)

def lp__law_code_1 : En → R Fl :=
    (sSeq (sAsg 1 (d2 addD (d2 ixD (dC (.str ".-")) (d2 modD (dVar 0) (dC (.int 2)))) (dVar 1)))
    (sAsg 0 (d2 fdivD (dVar 0) (dC (.int 2)))))

def lt__law_code_2 : En → R Bool :=
    (dTest (d2 gtD (dVar 0) (dC (.int 1))))

def bd__law_code : En → R Fl :=
    (sSeq (sAsg 1 (dC (.str "")))
    (sSeq (sWhile 130 lt__law_code_2 lp__law_code_1)
    (sRet (dVar 1))))

def dn__law_code : List PD → R PD := runB 2 (sNx bd__law_code)

def bd__law_speed : En → R Fl :=
    (sSeq (sAsg 1 (d2 addD (dC (.int 1)) (d2 modD (d2 fdivD (dVar 0) (dC (.int 8))) (d2 ixD (dN mkL (dCons (dC (.int 9)) (dCons (dC (.int 3)) dNil))) (d2 modD (dVar 0) (dC (.int 2)))))))
    (sRet (dN mkT (dCons (dVar 1) (dCons (d2 ixD (dN mkL (dCons (dC (.int 0)) (dCons (d2 addD (d2 subD (d2 modD (d2 fdivD (dVar 0) (dC (.int 512))) (d2 subD (d2 mulD (dC (.int 2)) (dVar 1)) (dC (.int 1)))) (dVar 1)) (dC (.int 1))) dNil))) (d2 modD (d2 fdivD (dVar 0) (dC (.int 64))) (dC (.int 2)))) dNil)))))

def dn__law_speed : List PD → R PD := runB 2 (sNx bd__law_speed)

def bd__law_tone : En → R Fl :=
    (sRet (d2 addD (d2 mulD (d2 ixD (dVar 0) (dC (.int 0))) (dIf (dTest (d2 eqD (dVar 1) (dC (.str "-")))) (dC (.int 3)) (dC (.int 1)))) (d2 ixD (dVar 0) (dC (.int 1)))))

def dn__law_tone : List PD → R PD := runB 2 (sNx bd__law_tone)

def bd_need_code : En → R Fl :=
    (sIf (dNot (dTest (dCall dn_is_code (dCons (dVar 0) dNil)))) (sRaise "BadCode") sNil)

def dn_need_code : List PD → R PD := runB 1 bd_need_code

def bd_is_speed : En → R Fl :=
    (sSeq (sIf (dOr (dNot (dTest (d1 (isiD isTupD) (dVar 0)))) (dOr (dTest (d2 neD (dN lenD (dCons (dVar 0) dNil)) (dC (.int 2)))) (dNot (dTest (dCall dn_is_count (dCons (d2 ixD (dVar 0) (dC (.int 0))) (dCons (dC (.int 1)) (dCons (dC cv_MOST_UNIT) dNil)))))))) (sRet (dC (.bool false))) sNil)
    (sRet (dCall dn_is_count (dCons (d2 ixD (dVar 0) (dC (.int 1))) (dCons (d2 subD (dC (.int 1)) (d2 ixD (dVar 0) (dC (.int 0)))) (dCons (d2 subD (d2 ixD (dVar 0) (dC (.int 0))) (dC (.int 1))) dNil))))))

def dn_is_speed : List PD → R PD := runB 1 (sNx bd_is_speed)

def bd_Keyer_wish : En → R Fl :=
    (sSeq (sIf (dTest (d2 neD (dFld 0 "Keyer" nm_Keyer 5) (dC (.str "")))) (sRetM (eS (dFld 0 "Keyer" nm_Keyer 5))) sNil)
    (sSeq (sIf (dAnd (dTest (dVar 1)) (dTest (dVar 2))) (sSeq (sIf (dOr (dTest (d2 eqD (dFld 0 "Keyer" nm_Keyer 0) (dC (.str "plain")))) (dTest (d2 eqD (dFld 0 "Keyer" nm_Keyer 2) (dC (.str ""))))) (sRetM (eS (dC (.str ".")))) sNil)
    (sRetM (eS (dCall dn_other_one (dCons (dFld 0 "Keyer" nm_Keyer 2) dNil))))) sNil)
    (sSeq (sIf (dOr (dTest (dVar 1)) (dTest (dVar 2))) (sRetM (eS (dIf (dTest (dVar 1)) (dC (.str ".")) (dC (.str "-"))))) sNil)
    (sSeq (sIf (dAnd (dTest (d2 eqD (dFld 0 "Keyer" nm_Keyer 0) (dC (.str "b")))) (dTest (dFld 0 "Keyer" nm_Keyer 6))) (sRetM (eS (dCall dn_other_one (dCons (dFld 0 "Keyer" nm_Keyer 2) dNil)))) sNil)
    (sRetM (eS (dC (.str ""))))))))

def mt_Keyer_wish : List FV → List PD → RO := runM 3 "Keyer" nm_Keyer (sNx bd_Keyer_wish)

def bd_Keyer_note : En → R Fl :=
    (sSeq (sAsg 3 (dIf (dTest (d2 eqD (dFld 0 "Keyer" nm_Keyer 2) (dC (.str ".")))) (dAndV (dVar 2) (d1 notD (d2 ixD (dFld 0 "Keyer" nm_Keyer 7) (dC (.int 1))))) (dAndV (dVar 1) (d1 notD (d2 ixD (dFld 0 "Keyer" nm_Keyer 7) (dC (.int 0)))))))
    (sSeq (sIf (dAnd (dTest (d2 neD (dFld 0 "Keyer" nm_Keyer 0) (dC (.str "plain")))) (dTest (dVar 3))) (sFldE 0 "Keyer" nm_Keyer 5 (eS (dCall dn_other_one (dCons (dFld 0 "Keyer" nm_Keyer 2) dNil)))) sNil)
    (sIf (dAnd (dTest (dVar 1)) (dTest (dVar 2))) (sFldE 0 "Keyer" nm_Keyer 6 (eS (dC (.bool true)))) sNil)))

def mt_Keyer_note : List FV → List PD → RO := runM 4 "Keyer" nm_Keyer (sNx bd_Keyer_note)

def ce_need_hand_1 : En → R PD :=
    (dCall dn_are_keys (dCons (dVar 1) dNil))

def bd_need_hand : En → R Fl :=
    (sSeq (sIf (dOr (dNot (dTest (d1 (isiD isListD) (dVar 0)))) (dTest (d2 gtD (dN lenD (dCons (dVar 0) dNil)) (dC cv_MOST_HAND)))) (sRaise "BadHand") sNil)
    (sIf (dNot (dTest (dN allD (dCons (dF (dLc (dIt asL (dVar 0)) (gN 1) dYes ce_need_hand_1 [1])) dNil)))) (sRaise "BadHand") sNil))

def dn_need_hand : List PD → R PD := runB 2 bd_need_hand

def bd_comes : En → R Fl :=
    (sSeq (sIf (dTest (d2 eqD (dVar 2) (dN mkT (dCons (dC (.bool true)) (dCons (dC (.bool true)) dNil))))) (sRet (dIf (dOr (dTest (d2 eqD (dVar 0) (dC (.str "plain")))) (dTest (d2 eqD (dVar 3) (dC (.str ""))))) (dC (.str ".")) (dCall dn_other_one (dCons (dVar 3) dNil)))) sNil)
    (sSeq (sIf (dTest (d2 neD (dVar 2) (dN mkT (dCons (dC (.bool false)) (dCons (dC (.bool false)) dNil))))) (sRet (dIf (dTest (d2 ixD (dVar 2) (dC (.int 0)))) (dC (.str ".")) (dC (.str "-")))) sNil)
    (sRet (dIf (dAnd (dTest (d2 eqD (dVar 0) (dC (.str "b")))) (dTest (d2 eqD (dVar 1) (dN mkT (dCons (dC (.bool true)) (dCons (dC (.bool true)) dNil)))))) (dCall dn_other_one (dCons (dVar 3) dNil)) (dC (.str ""))))))

def dn_comes : List PD → R PD := runB 4 (sNx bd_comes)

def bd_need_speed : En → R Fl :=
    (sIf (dNot (dTest (dCall dn_is_speed (dCons (dVar 0) dNil)))) (sRaise "BadNumber") sNil)

def dn_need_speed : List PD → R PD := runB 1 bd_need_speed

def bd_Keyer_begin : En → R Fl :=
    (sSeq (sFldE 0 "Keyer" nm_Keyer 2 (eX (xMeth 0 "Keyer" nm_Keyer mt_Keyer_wish (eaS (dCons (dVar 1) (dCons (dVar 2) dNil))))))
    (sSeq (sFldE 0 "Keyer" nm_Keyer 5 (eS (dC (.str ""))))
    (sSeq (sFldE 0 "Keyer" nm_Keyer 6 (eS (dAndV (dVar 1) (dVar 2))))
    (sIf (dTest (d2 neD (dFld 0 "Keyer" nm_Keyer 2) (dC (.str "")))) (sSeq (sFldApp 0 "Keyer" nm_Keyer 8 (dN mkT (dCons (dFld 0 "Keyer" nm_Keyer 9) (dCons (dFld 0 "Keyer" nm_Keyer 2) dNil))))
    (sSeq (sFldE 0 "Keyer" nm_Keyer 3 (eS (dCall dn_tone_long (dCons (dFld 0 "Keyer" nm_Keyer 1) (dCons (dFld 0 "Keyer" nm_Keyer 2) dNil)))))
    (sFldE 0 "Keyer" nm_Keyer 4 (eS (dCall dn_gap_long (dCons (dFld 0 "Keyer" nm_Keyer 1) (dCons (dC (.int 1)) dNil))))))) sNil))))

def mt_Keyer_begin : List FV → List PD → RO := runM 3 "Keyer" nm_Keyer (sNx bd_Keyer_begin)

def bd_Keyer_is_at_rest : En → R Fl :=
    (sRetM (eAndV (eS (d2 eqD (d2 addD (dFld 0 "Keyer" nm_Keyer 3) (dFld 0 "Keyer" nm_Keyer 4)) (dC (.int 0)))) (e2 eqD (eX (xMeth 0 "Keyer" nm_Keyer mt_Keyer_wish (eaS (dCons (dC (.bool false)) (dCons (dC (.bool false)) dNil))))) (eS (dC (.str ""))))))

def mt_Keyer_is_at_rest : List FV → List PD → RO := runM 1 "Keyer" nm_Keyer (sNx bd_Keyer_is_at_rest)

def lp_holds_for_1 : En → R Fl :=
    (sIf (dAnd (dTest (dBIn false 2 (dVar 6))) (dTest (d2 eqD (dCall dn_comes (dCons (dVar 0) (dCons (dVar 6) (dCons (dVar 7) (dCons (dVar 3) dNil))))) (dVar 4)))) (sSeq (sAsg 8 (dN mkT (dCons (d2 addD (d2 ixD (dBGet 2 (dVar 6)) (dC (.int 0))) (dCall dn_presses (dCons (dVar 6) (dCons (dVar 7) dNil)))) (dCons (d2 addD (d2 ixD (dBGet 2 (dVar 6)) (dC (.int 1))) (dN mkL (dCons (dVar 7) dNil))) dNil))))
    (sIf (dOr (dTest (dBIn true 5 (dVar 7))) (dTest (d2 ltA (dVar 8) (dBGet 5 (dVar 7))))) (sBPut 5 (dVar 7) (dVar 8)) sNil)) sNil)

def lp_holds_for_2 : En → R Fl :=
    (sFor (dIt asT (dC cv_HOLDS)) (gN 7) lp_holds_for_1)

def lp_holds_for_3 : En → R Fl :=
    (sSeq (sBNew 5)
    (sSeq (sFor (dIt asT (dC cv_HOLDS)) (gN 6) lp_holds_for_2)
    (sBMove 2 3 5 (dVar 4))))

def lp_holds_for_4 : En → R Fl :=
    (sIf (dTest (d2 eqD (dCall dn_comes (dCons (dVar 0) (dCons (dVar 6) (dCons (dN mkT (dCons (dC (.bool false)) (dCons (dC (.bool false)) dNil))) (dCons (dVar 3) dNil))))) (dC (.str "")))) (sApp 9 (dN mkT (dCons (d2 ixD (dBGet 2 (dVar 6)) (dC (.int 0))) (dCons (d2 addD (d2 ixD (dBGet 2 (dVar 6)) (dC (.int 1))) (dN mkL (dCons (dN mkT (dCons (dC (.bool false)) (dCons (dC (.bool false)) dNil))) dNil))) dNil)))) sNil)

def bd_holds_for : En → R Fl :=
    (sSeq (sBDisp 2 (dN mkT (dCons (dC (.bool false)) (dCons (dC (.bool false)) dNil))) (dN mkT (dCons (dC (.int 0)) (dCons (dN mkL dNil) dNil))))
    (sSeq (sAsg 3 (dC (.str "")))
    (sSeq (sFor (dIt signs (dVar 1)) (gN 4) lp_holds_for_3)
    (sSeq (sAsgF 9 (dLst dNil))
    (sSeq (sFix 2 (sFor (dKeysB 2) (gN 6) lp_holds_for_4))
    (sRet (dN minA (dCons (dVarL 9) dNil))))))))

def dn_holds_for : List PD → R PD := runB 10 (sNx bd_holds_for)

def bd_Keyer___init__ : En → R Fl :=
    (sSeq (sDropX (dCall dn_need_manner (dCons (dVar 1) dNil)))
    (sSeq (sDropX (dCall dn_need_speed (dCons (dVar 2) dNil)))
    (sSeq (sFldE 0 "Keyer" nm_Keyer 0 (eS (dVar 1)))
    (sSeq (sFldE 0 "Keyer" nm_Keyer 1 (eS (dVar 2)))
    (sSeq (sFldE 0 "Keyer" nm_Keyer 2 (eS (dC (.str ""))))
    (sSeq (sFldE 0 "Keyer" nm_Keyer 3 (eS (dC (.int 0))))
    (sSeq (sFldE 0 "Keyer" nm_Keyer 4 (eS (dC (.int 0))))
    (sSeq (sFldE 0 "Keyer" nm_Keyer 5 (eS (dC (.str ""))))
    (sSeq (sFldE 0 "Keyer" nm_Keyer 6 (eS (dC (.bool false))))
    (sSeq (sFldE 0 "Keyer" nm_Keyer 7 (eS (dN mkT (dCons (dC (.bool false)) (dCons (dC (.bool false)) dNil)))))
    (sSeq (sFldF 0 "Keyer" nm_Keyer 8 (dLst dNil))
    (sFldE 0 "Keyer" nm_Keyer 9 (eS (dC (.int 0)))))))))))))))

def mt_Keyer___init__ : List FV → List PD → RO := runM 3 "Keyer" nm_Keyer bd_Keyer___init__

def bd_Keyer_step : En → R Fl :=
    (sSeq (sIf (dOr (dNot (dTest (d1 (isiD isBoolD) (dVar 1)))) (dNot (dTest (d1 (isiD isBoolD) (dVar 2))))) (sRaiseM "BadHand") sNil)
    (sSeq (sIf (dTest (d2 gtD (d2 addD (dFld 0 "Keyer" nm_Keyer 3) (dFld 0 "Keyer" nm_Keyer 4)) (dC (.int 0)))) (sDropE (eX (xMeth 0 "Keyer" nm_Keyer mt_Keyer_note (eaS (dCons (dVar 1) (dCons (dVar 2) dNil)))))) (sDropE (eX (xMeth 0 "Keyer" nm_Keyer mt_Keyer_begin (eaS (dCons (dVar 1) (dCons (dVar 2) dNil)))))))
    (sSeq (sFldE 0 "Keyer" nm_Keyer 7 (eS (dN mkT (dCons (dVar 1) (dCons (dVar 2) dNil)))))
    (sSeq (sFldE 0 "Keyer" nm_Keyer 9 (eS (d2 addD (dFld 0 "Keyer" nm_Keyer 9) (dC (.int 1)))))
    (sSeq (sIf (dTest (d2 gtD (dFld 0 "Keyer" nm_Keyer 3) (dC (.int 0)))) (sSeq (sFldE 0 "Keyer" nm_Keyer 3 (eS (d2 subD (dFld 0 "Keyer" nm_Keyer 3) (dC (.int 1)))))
    (sRetM (eS (dC (.bool true))))) sNil)
    (sSeq (sFldE 0 "Keyer" nm_Keyer 4 (eS (dN max2D (dCons (dC (.int 0)) (dCons (d2 subD (dFld 0 "Keyer" nm_Keyer 4) (dC (.int 1))) dNil)))))
    (sRetM (eS (dC (.bool false))))))))))

def mt_Keyer_step : List FV → List PD → RO := runM 3 "Keyer" nm_Keyer bd_Keyer_step

def bd_look_at : En → R Fl :=
    (sSeq (sDrop (dCall dn_need_manner (dCons (dVar 0) dNil)))
    (sSeq (sDrop (dCall dn_need_speed (dCons (dVar 1) dNil)))
    (sDrop (dCall dn_need_hand (dCons (dVar 2) dNil)))))

def dn_look_at : List PD → R PD := runB 3 bd_look_at

def bd_fewest : En → R Fl :=
    (sSeq (sDrop (dCall dn_need_manner (dCons (dVar 0) dNil)))
    (sSeq (sDrop (dCall dn_need_code (dCons (dVar 1) dNil)))
    (sRet (d2 ixD (dCall dn_holds_for (dCons (dVar 0) (dCons (dVar 1) dNil))) (dC (.int 0))))))

def dn_fewest : List PD → R PD := runB 2 bd_fewest

def bd_holds : En → R Fl :=
    (sSeq (sDrop (dCall dn_need_manner (dCons (dVar 0) dNil)))
    (sSeq (sDrop (dCall dn_need_code (dCons (dVar 1) dNil)))
    (sRet (d2 ixD (dCall dn_holds_for (dCons (dVar 0) (dCons (dVar 1) dNil))) (dC (.int 1))))))

def dn_holds : List PD → R PD := runB 2 bd_holds

def ce_spread_1 : En → R PD :=
    (dCall dn_are_keys (dCons (dVar 6) dNil))

def lp_spread_2 : En → R Fl :=
    (sExt 3 (d2 mulD (dN mkL (dCons (dVar 5) dNil)) (d2 addD (dCall dn_tone_long (dCons (dVar 2) (dCons (dVar 4) dNil))) (dCall dn_gap_long (dCons (dVar 2) (dCons (dC (.int 1)) dNil))))))

def bd_spread : En → R Fl :=
    (sSeq (sDrop (dCall dn_need_code (dCons (dVar 0) dNil)))
    (sSeq (sIf (dOr (dNot (dTest (d1 (isiD isListD) (dVar 1)))) (dOr (dTest (d2 neD (dN lenD (dCons (dVar 1) dNil)) (d2 addD (dN lenD (dCons (dVar 0) dNil)) (dC (.int 1))))) (dNot (dTest (dN allD (dCons (dF (dLc (dIt asL (dVar 1)) (gN 6) dYes ce_spread_1 [6])) dNil)))))) (sRaise "BadHand") sNil)
    (sSeq (sDrop (dCall dn_need_speed (dCons (dVar 2) dNil)))
    (sSeq (sAsgF 3 (dLst dNil))
    (sSeq (sFor (dItA zipM (dCons (dVar 0) (dCons (dVar 1) dNil))) (gT 2 (gCn (gN 4) (gCn (gN 5) gNl))) lp_spread_2)
    (sRet (d2 addD (dVarL 3) (dSl (dVar 1) (dOso (d1 negD (dC (.int 1)))) dOno))))))))

def dn_spread : List PD → R PD := runB 7 bd_spread

def ce_keyed_1 : En → R (PD × En) :=
    (eX (xMeth 3 "Keyer" nm_Keyer mt_Keyer_step (eaS (dCons (dVar 5) (dCons (dVar 6) dNil)))))

def lp_keyed_2 : En → R Fl :=
    (sAppE 4 (eX (xMeth 3 "Keyer" nm_Keyer mt_Keyer_step (eaS (dCons (dC (.bool false)) (dCons (dC (.bool false)) dNil))))))

def lt_keyed_3 : En → R (Bool × En) :=
    (tNo (tE (eX (xMeth 3 "Keyer" nm_Keyer mt_Keyer_is_at_rest (eaS dNil)))))

def bd_keyed : En → R Fl :=
    (sSeq (sMake 3 "Keyer" nm_Keyer mt_Keyer___init__ (dCons (dVar 0) (dCons (dVar 1) dNil)))
    (sSeq (sAsgFE 4 (dLcE (eaS (dIt asL (dVar 2))) (gT 2 (gCn (gN 5) (gCn (gN 6) gNl))) ce_keyed_1 [5, 6]))
    (sSeq (sWhileE 100000 lt_keyed_3 lp_keyed_2)
    (sRetP 3 4))))

def dn_keyed : List PD → RO := runK 7 "Keyer" nm_Keyer bd_keyed

def bd_played : En → R Fl :=
    (sSeq (sDrop (dCall dn_look_at (dCons (dVar 0) (dCons (dVar 1) (dCons (dVar 2) dNil)))))
    (sRet (dK1 dn_keyed (dCons (dVar 0) (dCons (dVar 1) (dCons (dVar 2) dNil))))))

def dn_played : List PD → R PD := runB 3 bd_played

def ce_all_made_1 : En → R PD :=
    (dVar 4)

def bd_all_made : En → R Fl :=
    (sSeq (sDrop (dCall dn_look_at (dCons (dVar 0) (dCons (dVar 1) (dCons (dVar 2) dNil)))))
    (sRet (dM1 joinD (dC (.str "")) (dF (dLc (dIt asL (dK0 dn_keyed mt_Keyer_made (dCons (dVar 0) (dCons (dVar 1) (dCons (dVar 2) dNil))))) (gT 2 (gCn (gN 3) (gCn (gN 4) gNl))) dYes ce_all_made_1 [3, 4])))))

def dn_all_made : List PD → R PD := runB 5 bd_all_made

def lp_law_1 : En → R Fl :=
    (sSeq (sAsg 11 (d2 addD (d2 addD (dVar 11) (dN intD (dCons (dAndV (d2 ixD (dVar 12) (dC (.int 0))) (d1 notD (d2 ixD (dVar 10) (dC (.int 0))))) dNil))) (dN intD (dCons (dAndV (d2 ixD (dVar 12) (dC (.int 1))) (d1 notD (d2 ixD (dVar 10) (dC (.int 1))))) dNil))))
    (sAsg 10 (dVar 12)))

def ce_law_2 : En → R PD :=
    (d2 subD (d2 addD (dCall dn__law_tone (dCons (dVar 6) (dCons (dVar 17) dNil))) (d2 ixD (dVar 6) (dC (.int 0)))) (d2 ixD (dVar 6) (dC (.int 1))))

def ce_law_3 : En → R PD :=
    (dC (.int 1))

def cc_law_4 : En → R Bool :=
    (dTest (d2 eqD (dVar 18) (dVar 19)))

def lp_law_5 : En → R Fl :=
    (sSeq (sAsg 8 (dCall dn_holds (dCons (dVar 7) (dCons (dVar 5) dNil))))
    (sSeq (sAsg 9 (dCall dn_spread (dCons (dVar 5) (dCons (dVar 8) (dCons (dVar 6) dNil)))))
    (sSeq (sIf (dOr (dTest (d2 neD (dCall dn_all_made (dCons (dVar 7) (dCons (dVar 6) (dCons (dVar 9) dNil)))) (dVar 5))) (dOr (dTest (d2 neD (dN lenD (dCons (dVar 8) dNil)) (d2 addD (dN lenD (dCons (dVar 5) dNil)) (dC (.int 1))))) (dTest (d2 neD (d2 ixD (dVar 8) (d1 negD (dC (.int 1)))) (dN mkT (dCons (dC (.bool false)) (dCons (dC (.bool false)) dNil))))))) (sRet (dC (.bool false))) sNil)
    (sSeq (sAsgG (gT 2 (gCn (gN 10) (gCn (gN 11) gNl))) (dN mkT (dCons (dN mkT (dCons (dC (.bool false)) (dCons (dC (.bool false)) dNil))) (dCons (dC (.int 0)) dNil))))
    (sSeq (sFor (dIt asL (dVar 9)) (gN 12) lp_law_1)
    (sSeq (sIf (dOr (dTest (d2 neD (dVar 11) (dCall dn_fewest (dCons (dVar 7) (dCons (dVar 5) dNil))))) (dNot (dTest (dChain leD leD (dC (.int 1)) (dVar 11) (dN lenD (dCons (dVar 5) dNil)))))) (sRet (dC (.bool false))) sNil)
    (sSeq (sAsg 13 (dN sumD (dCons (dF (dLc (dIt signs (dVar 5)) (gN 17) dYes ce_law_2 [17])) dNil)))
    (sSeq (sIf (dOr (dTest (d2 neD (dN lenD (dCons (dVar 9) dNil)) (d2 addD (dVar 13) (dC (.int 1))))) (dTest (d2 neD (dN lenD (dCons (dCall dn_played (dCons (dVar 7) (dCons (dVar 6) (dCons (dVar 9) dNil)))) dNil)) (d2 addD (dVar 13) (dC (.int 1)))))) (sRet (dC (.bool false))) sNil)
    (sSeq (sIf (dAnd (dTest (d2 eqD (d1 lenT (dVar 5)) (dC (.int 1)))) (dTest (d2 neD (dVar 11) (dC (.int 1))))) (sRet (dC (.bool false))) sNil)
    (sSeq (sAsg 14 (dF (dLc (dItA zipT (dCons (dSl (dVar 5) dOno (dOso (d1 negD (dC (.int 1))))) (dCons (dSl (dVar 5) (dOso (dC (.int 1))) dOno) dNil))) (gT 2 (gCn (gN 18) (gCn (gN 19) gNl))) cc_law_4 ce_law_3 [18, 19])))
    (sIf (dAnd (dTest (d2 neD (dVar 7) (dC (.str "plain")))) (dAnd (dTest (d2 eqD (dVar 14) (dN mkL dNil))) (dTest (d2 gtD (dVar 11) (dC (.int 2)))))) (sRet (dC (.bool false))) sNil)))))))))))

def lp_law_6 : En → R Fl :=
    (sSeq (sAsg 4 (dCall dn__law_drawn (dCons (dVar 2) (dCons (d2 addD (dC (.int 10)) (dVar 3)) dNil))))
    (sSeq (sAsgG (gT 2 (gCn (gN 5) (gCn (gN 6) gNl))) (dN mkT (dCons (dCall dn__law_code (dCons (d2 addD (dC (.int 2)) (d2 modD (d2 fdivD (dVar 4) (dC (.int 8))) (dC (.int 126)))) dNil)) (dCons (dCall dn__law_speed (dCons (d2 fdivD (dVar 4) (dC (.int 1024))) dNil)) dNil))))
    (sFor (dIt asL (dN mkL (dCons (dC (.str "plain")) (dCons (dC (.str "a")) (dCons (dC (.str "b")) dNil))))) (gN 7) lp_law_5)))

def lp_law_7 : En → R Fl :=
    (sApp 15 (dTold excs (dCall dn_spread (dCons (dVar 5) (dCons (dVar 16) (dCons (dC .none) dNil))))))

def lp_law_8 : En → R Fl :=
    (sSeq (sAsg 2 (dCall dn__law_drawn (dCons (dCell 0 (dVar 1)) (dCons (dVar 1) dNil))))
    (sSeq (sFor (dItA rng1 (dCons (dC (.int 4)) dNil)) (gN 3) lp_law_6)
    (sSeq (sAsgF 15 (dLst (dCons (dTold excs (dCall dn_spread (dCons (dC (.str "")) (dCons (dC .none) (dCons (dC .none) dNil))))) dNil)))
    (sSeq (sAsg 13 (d2 addD (dN lenD (dCons (dVar 5) dNil)) (dC (.int 1))))
    (sSeq (sFor (dIt asL (dN mkL (dCons (dC .none) (dCons (dSl (dVar 8) dOno (dOso (d1 negD (dC (.int 1))))) (dCons (d2 addD (dVar 8) (dN mkL (dCons (dN mkT (dCons (dC (.bool false)) (dCons (dC (.bool false)) dNil))) dNil))) (dCons (d2 mulD (dN mkL (dCons (dN mkT (dCons (dC (.int 1)) (dCons (dC (.int 0)) dNil))) dNil)) (dVar 13)) (dCons (d2 mulD (dN mkL (dCons (dC .none) dNil)) (dVar 13)) (dCons (dN tupD (dCons (dVar 8) dNil)) dNil)))))))) (gN 16) lp_law_7)
    (sSeq (sApp 15 (dTold excs (dCall dn_spread (dCons (dVar 5) (dCons (dVar 8) (dCons (dC .none) dNil))))))
    (sIf (dTest (d2 neD (dVarL 15) (d2 addD (d2 addD (dN mkL (dCons (dC (.str "BadCode")) dNil)) (d2 mulD (dN mkL (dCons (dC (.str "BadHand")) dNil)) (dC (.int 6)))) (dN mkL (dCons (dC (.str "BadNumber")) dNil))))) (sRet (dC (.bool false))) sNil)))))))

def bd_law : En → R Fl :=
    (sSeq (sFor (dItA rng1 (dCons (dN max2D (dCons (dC (.int 1)) (dCons (dN minD (dCons (dC (.int 3)) (dCons (dLenR 0) dNil))) dNil))) dNil)) (gN 1) lp_law_8)
    (sRet (dC (.bool true))))

section
variable [Tabl] {P : Program} {w : World} {K : PySem.W.Frag} {mg : Str → Option Value} {base : Heap} {cl : Str → Addr} {A : Ads} {D : Fds}
theorem sc__law_word : FnScope ["e", "flags", "words_here", "flag"] ["e"] (defScope s__law_word) := ⟨rfl, rfl, rfl, by decide +kernel, rfl, by decide +kernel, by decide +kernel⟩
theorem wrd {k : Nat} (T : Txt K mg cl Tabl.C A D) : Wrd P w K mg base cl excs k := by
  refine wrd_by (bw := bd__law_word) T.F__law_word sc__law_word T.g__law_word T.b__law_word (by decide) word_all fun c hc E A' outer s H cdv p hot h1 h2 hr => ?_
  have W := T.word c hc
  obtain ⟨ea, eo⟩ := p
  have HC : L2H.HotC (L2H.cxH (L2N.CX P w) P w K mg base ["e", "flags", "words_here", "flag"] "_law_word" (defScope s__law_word) A._law_word cdv A' outer s H E (ea, eo)) := ⟨(ea, eo), hot, List.mem_cons_self⟩
  have HF : ∃ vs, eo.data = .fields vs := let ⟨_, v, z, _⟩ := hot; ⟨v, z⟩
  have HU : (A'.deeper (PyProof.Rows.envOfC "_law_word" (defScope s__law_word) s.heap.objs.size A._law_word cdv)).units + 64 < cLine := by have := hr.un; omega
  have HP : (ea, eo) ∈ (L2H.cxH (L2N.CX P w) P w K mg base ["e", "flags", "words_here", "flag"] "_law_word" (defScope s__law_word) A._law_word cdv A' outer s H E (ea, eo)).pn := List.mem_cons_self
  refine ⟨_, (pss_cons (ps_set (i := 1) sc__law_word.nd rfl (.inl rfl) (pe_lst (pa_cons (pe_callB (call_isP (W.exc) HP ⟨h1, h2⟩ HF) (by rfl) T.z_isinstance (by decide +kernel) (pa_cons (pv 0) (pa_cons (pe_glob (v := .ref (cl "BadBook")) (by rfl) T.ge_BadBook rfl) pa_nil))) (pa_cons (pe_callB (call_isP (W.exc) HP ⟨h1, h2⟩ HF) (by rfl) T.z_isinstance (by decide +kernel) (pa_cons (pv 0) (pa_cons (pe_glob (v := .ref (cl "BadSign")) (by rfl) T.ge_BadSign rfl) pa_nil))) (pa_cons (pe_callB (call_isP (W.exc) HP ⟨h1, h2⟩ HF) (by rfl) T.z_isinstance (by decide +kernel) (pa_cons (pv 0) (pa_cons (pe_glob (v := .ref (cl "BadCode")) (by rfl) T.ge_BadCode rfl) pa_nil))) (pa_cons (pe_callB (call_isP (W.exc) HP ⟨h1, h2⟩ HF) (by rfl) T.z_isinstance (by decide +kernel) (pa_cons (pv 0) (pa_cons (pe_glob (v := .ref (cl "BadText")) (by rfl) T.ge_BadText rfl) pa_nil))) pa_nil))))))
      (pss_cons (ps_set (i := 1) sc__law_word.nd rfl (.inl rfl) (pe_op op_addD (pv 1) (pe_lst (pa_cons (pe_callB (call_isP (W.exc) HP ⟨h1, h2⟩ HF) (by rfl) T.z_isinstance (by decide +kernel) (pa_cons (pv 0) (pa_cons (pe_glob (v := .ref (cl "BadNumber")) (by rfl) T.ge_BadNumber rfl) pa_nil))) (pa_cons (pe_callB (call_isP (W.exc) HP ⟨h1, h2⟩ HF) (by rfl) T.z_isinstance (by decide +kernel) (pa_cons (pv 0) (pa_cons (pe_glob (v := .ref (cl "BadRuns")) (by rfl) T.ge_BadRuns rfl) pa_nil))) (pa_cons (pe_callB (call_isP (W.exc) HP ⟨h1, h2⟩ HF) (by rfl) T.z_isinstance (by decide +kernel) (pa_cons (pv 0) (pa_cons (pe_glob (v := .ref (cl "BadManner")) (by rfl) T.ge_BadManner rfl) pa_nil))) (pa_cons (pe_callB (call_isP (W.exc) HP ⟨h1, h2⟩ HF) (by rfl) T.z_isinstance (by decide +kernel) (pa_cons (pv 0) (pa_cons (pe_glob (v := .ref (cl "BadHand")) (by rfl) T.ge_BadHand rfl) pa_nil))) pa_nil)))))))
      (pss_cons (ps_if (PW.pt (pw_or (pt_cmpR (kx_ne K rfl HU) (pe_callB (call_sumH HC) (by rfl) T.z_sum (by decide +kernel) (pa_cons (pe_intsH HC (pv 1) T.z_int rfl rfl rfl (by decide) (by decide) (by decide) (by decide)) pa_nil)) pe_int (nomark _)) (pw_or1 (pt_not (pt_val (pe_callB (call_isP (W.exc) HP ⟨h1, h2⟩ HF) (by rfl) T.z_isinstance (by decide +kernel) (pa_cons (pv 0) (pa_cons (pe_bltn (v := .ty "ValueError") (by rfl) T.z_ValueError (by decide +kernel) rfl) pa_nil)))))))) (pss_one (ps_ret pe_str)) pss_nil)
      (pss_cons (ps_set (i := 2) sc__law_word.nd rfl (.inl rfl) (pe_lst (pa_cons pe_str (pa_cons pe_str (pa_cons pe_str (pa_cons pe_str (pa_cons pe_str (pa_cons pe_str (pa_cons pe_str (pa_cons pe_str pa_nil))))))))))
      (pss_one (ps_ret (pe_ix (kx_ix K rfl HU) (pv 2) (pe_bm PySem.F.plainAttrs_list PySem.F.slot_list_index PySem.F.type_list_index mt_index (pv 1) (pa_cons pe_bl pa_nil)) (fun _ _ => rfl)))))))), ?_⟩
  exact (es_seq (es_asg (ed_lst (ea_cons (ed_is (c := .ref (cl "BadBook")) 0 (fun _ h => h) (W.kit "BadBook" (by simp [excw]))) (ea_cons (ed_is (c := .ref (cl "BadSign")) 0 (fun _ h => h) (W.kit "BadSign" (by simp [excw]))) (ea_cons (ed_is (c := .ref (cl "BadCode")) 0 (fun _ h => h) (W.kit "BadCode" (by simp [excw]))) (ea_cons (ed_is (c := .ref (cl "BadText")) 0 (fun _ h => h) (W.kit "BadText" (by simp [excw]))) ea_nil))))))
      (es_seq (es_asg (ed_op o_add ((ed_var 1)).l ((ed_lst (ea_cons (ed_is (c := .ref (cl "BadNumber")) 0 (fun _ h => h) (W.kit "BadNumber" (by simp [excw]))) (ea_cons (ed_is (c := .ref (cl "BadRuns")) 0 (fun _ h => h) (W.kit "BadRuns" (by simp [excw]))) (ea_cons (ed_is (c := .ref (cl "BadManner")) 0 (fun _ h => h) (W.kit "BadManner" (by simp [excw]))) (ea_cons (ed_is (c := .ref (cl "BadHand")) 0 (fun _ h => h) (W.kit "BadHand" (by simp [excw]))) ea_nil)))))).l))
      (es_seq (es_if (et_or (et_test ((ed_op o_ne ((ed_cb n_sum (eb_cons ((ed_ints ((ed_var 1)).l)).l eb_nil))).l ((ed_int 1)).l)).l) (et_not (et_B ((ed_is (c := .ty "ValueError") 0 (fun _ h => h) W.val)).l))) (es_ret ((ed_str "other")).l) es_nil)
      (es_seq (es_asg (ed_lst (ea_cons (ed_str "BadBook") (ea_cons (ed_str "BadSign") (ea_cons (ed_str "BadCode") (ea_cons (ed_str "BadText") (ea_cons (ed_str "BadNumber") (ea_cons (ed_str "BadRuns") (ea_cons (ed_str "BadManner") (ea_cons (ed_str "BadHand") ea_nil))))))))))
      (es_ret ((ed_op o_ix ((ed_var 2)).l ((ed_index ((ed_var 1)).l ((ed_bl true)).l)).l)).l)))))

theorem sc__law_told : FnScope ["deed", "e"] ["deed"] (defScope s__law_told) := ⟨rfl, rfl, rfl, by decide +kernel, rfl, by decide +kernel, by decide +kernel⟩
theorem tld (T : Txt K mg cl Tabl.C A D) : Tld K mg cl excs "KeysError" (cl "KeysError") := ⟨⟨s__law_told, _, _, _, _, _, _, _, _, _, _, _, _, T.F__law_told, sc__law_told, T.g__law_told, T.b__law_told, rfl, rfl, rfl, rfl, rfl⟩, by decide, T.ge_KeysError, fun c hc => (T.word c hc).cat⟩

theorem sc_is_code : FnScope ["thing", "one"] ["thing"] (defScope s_is_code) := ⟨rfl, rfl, rfl, by decide +kernel, rfl, by decide +kernel, by decide +kernel⟩
theorem ok_is_code (T : Txt K mg cl Tabl.C A D) : FnOk P w K mg base (L2N.CX P w) 1 A.is_code D.is_code ["thing"] (spF K cl 1 dn_is_code) := by
  refine def_ok (k := 0) T.F_is_code sc_is_code fun cdv A' outer s H E hr => ⟨_, (PSs.nox (pss_one (ps_ret (pe_and (pe_callB (kx_isi K rfl) (by rfl) T.z_isinstance (by decide +kernel) (pa_cons (pv 0) (pa_cons (pe_bltn (v := .ty "str") (by rfl) T.z_str (by decide +kernel) rfl) pa_nil))) (pe_and (pe_chain op_le op_le pe_int (pe_callB (kx_len K rfl) (by rfl) T.z_len (by decide +kernel) (pa_cons (pv 0) pa_nil)) (kpe_c K T.c_MOST_CODE rfl rfl)) (pe_one (pe_callB (kx_all K rfl rfl) (by rfl) T.z_all (by decide +kernel) (pa_cons (pe_lc (own := [("one", 1)]) rfl sc_is_code.nd (pi_str (pv 0)) (blkOk_by (N := ["thing", "one"]) (sc := defScope s_is_code) (own := [("one", 1)]) (by decide +kernel)) (fun _ _ _ _ _ => (pg_name (i := 1) sc_is_code.nd rfl (.inl rfl))) (fun _ _ _ _ _ => pts_nil) (fun _ _ _ _ _ => (pe_cmpR (kx_in K rfl hr.units) (pv 1) pe_str (by with_unfolding_all rfl)))) pa_nil)))))))), ?_⟩
  exact (es_nox (es_ret ((ed_andV ((ed_isi kit_str ((ed_var 0)).l)).l (ed_andV ((ed_chain o_le o_le ((ed_int 1)).l ((ed_cb n_len (eb_cons ((ed_var 0)).l eb_nil))).l ((ed_k T.r_MOST_CODE)).l)).l (ed_cb n_all (eb_cons (((ef_lc (vs := [1]) (ei_str ((ed_var 0)).l) (ek_name 1) et_yes (ed_op o_in ((ed_var 1)).l ((ed_str ".-")).l) (by decide))).s).l eb_nil))))).l))

theorem sc_is_count : FnScope ["thing", "low", "high"] ["thing", "low", "high"] (defScope s_is_count) := ⟨rfl, rfl, rfl, by decide +kernel, rfl, by decide +kernel, by decide +kernel⟩
theorem ok_is_count (T : Txt K mg cl Tabl.C A D) : FnOk P w K mg base (L2N.CX P w) 1 A.is_count D.is_count ["thing", "low", "high"] (spF K cl 3 dn_is_count) := by
  refine def_ok (k := 0) T.F_is_count sc_is_count fun cdv A' outer s H E hr => ⟨_, (PSs.nox (pss_one (ps_ret (pe_and (pe_callB (kx_isi K rfl) (by rfl) T.z_isinstance (by decide +kernel) (pa_cons (pv 0) (pa_cons (pe_bltn (v := .ty "int") (by rfl) T.z_int (by decide +kernel) rfl) pa_nil))) (pe_and (pe_not (pe_callB (kx_isi K rfl) (by rfl) T.z_isinstance (by decide +kernel) (pa_cons (pv 0) (pa_cons (pe_bltn (v := .ty "bool") (by rfl) T.z_bool (by decide +kernel) rfl) pa_nil)))) (pe_one (pe_chain op_le op_le (pv 1) (pv 0) (pv 2)))))))), ?_⟩
  exact (es_nox (es_ret ((ed_andV ((ed_isi kit_int ((ed_var 0)).l)).l (ed_andV ((ed_notV ((ed_isi kit_bool ((ed_var 0)).l)).l)).l (ed_chain o_le o_le ((ed_var 1)).l ((ed_var 0)).l ((ed_var 2)).l)))).l))

theorem sc_tone_long : FnScope ["speed", "element"] ["speed", "element"] (defScope s_tone_long) := ⟨rfl, rfl, rfl, by decide +kernel, rfl, by decide +kernel, by decide +kernel⟩
theorem ok_tone_long (T : Txt K mg cl Tabl.C A D) : FnOk P w K mg base (L2N.CX P w) 1 A.tone_long D.tone_long ["speed", "element"] (spF K cl 2 dn_tone_long) := by
  refine def_ok (k := 0) T.F_tone_long sc_tone_long fun cdv A' outer s H E hr => ⟨_, (PSs.nox (pss_one (ps_ret (pe_op op_addD (pe_op op_mulD (pe_ifExp (pt_cmpR (kx_eq K rfl hr.units) (pv 1) pe_str (nomark _)) pe_int pe_int) (pe_ix (kx_ix K rfl hr.units) (pv 0) pe_int (fun _ _ => rfl))) (pe_ix (kx_ix K rfl hr.units) (pv 0) pe_int (fun _ _ => rfl)))))), ?_⟩
  exact (es_nox (es_ret ((ed_op o_add ((ed_op o_mul ((ed_if (et_test ((ed_op o_eq ((ed_var 1)).l ((ed_str ".")).l)).l) (ed_int 1) (ed_int 3))).l ((ed_op o_ix ((ed_var 0)).l ((ed_int 0)).l)).l)).l ((ed_op o_ix ((ed_var 0)).l ((ed_int 1)).l)).l)).l))

theorem sc_gap_long : FnScope ["speed", "units"] ["speed", "units"] (defScope s_gap_long) := ⟨rfl, rfl, rfl, by decide +kernel, rfl, by decide +kernel, by decide +kernel⟩
theorem ok_gap_long (T : Txt K mg cl Tabl.C A D) : FnOk P w K mg base (L2N.CX P w) 1 A.gap_long D.gap_long ["speed", "units"] (spF K cl 2 dn_gap_long) := by
  refine def_ok (k := 0) T.F_gap_long sc_gap_long fun cdv A' outer s H E hr => ⟨_, (PSs.nox (pss_one (ps_ret (pe_op op_sub (pe_op op_mulD (pv 1) (pe_ix (kx_ix K rfl hr.units) (pv 0) pe_int (fun _ _ => rfl))) (pe_ix (kx_ix K rfl hr.units) (pv 0) pe_int (fun _ _ => rfl)))))), ?_⟩
  exact (es_nox (es_ret ((ed_op o_sub ((ed_op o_mul ((ed_var 1)).l ((ed_op o_ix ((ed_var 0)).l ((ed_int 0)).l)).l)).l ((ed_op o_ix ((ed_var 0)).l ((ed_int 1)).l)).l)).l))

theorem sc_need_manner : FnScope ["manner"] ["manner"] (defScope s_need_manner) := ⟨rfl, rfl, rfl, by decide +kernel, rfl, by decide +kernel, by decide +kernel⟩
theorem ok_need_manner (T : Txt K mg cl Tabl.C A D) : FnOk P w K mg base (L2N.CX P w) 1 A.need_manner D.need_manner ["manner"] (spF K cl 1 dn_need_manner) := by
  refine def_ok (k := 0) T.F_need_manner sc_need_manner fun cdv A' outer s H E hr => ⟨_, (pss_one (ps_if (PW.pt (pw_or (pt_not (pt_val (pe_callB (kx_isi K rfl) (by rfl) T.z_isinstance (by decide +kernel) (pa_cons (pv 0) (pa_cons (pe_bltn (v := .ty "str") (by rfl) T.z_str (by decide +kernel) rfl) pa_nil))))) (pw_or1 (pt_cmpR (kx_notin K rfl hr.units) (pv 0) (kpe_t K T.c_MANNERS rfl rfl) (by with_unfolding_all rfl))))) (pss_one (L2N.ps_raise rfl (L2N.takes_of rfl rfl rfl rfl) (L2N.pmk_own PySem.F.excBase_ValueError T.x_BadManner T.ge_BadManner T.k_BadManner (raises_own T.eb_BadManner T.t_BadManner) rfl))) pss_nil)), ?_⟩
  exact (es_if (et_or (et_not (et_B ((ed_isi kit_str ((ed_var 0)).l)).l)) (et_test ((ed_op o_notin ((ed_var 0)).l (ed_kt).l)).l)) (es_raise "BadManner") es_nil)

theorem sc_other_one : FnScope ["element"] ["element"] (defScope s_other_one) := ⟨rfl, rfl, rfl, by decide +kernel, rfl, by decide +kernel, by decide +kernel⟩
theorem ok_other_one (T : Txt K mg cl Tabl.C A D) : FnOk P w K mg base (L2N.CX P w) 1 A.other_one D.other_one ["element"] (spF K cl 1 dn_other_one) := by
  refine def_ok (k := 0) T.F_other_one sc_other_one fun cdv A' outer s H E hr => ⟨_, (PSs.nox (pss_one (ps_ret (pe_ifExp (pt_cmpR (kx_eq K rfl hr.units) (pv 0) pe_str (nomark _)) pe_str pe_str)))), ?_⟩
  exact (es_nox (es_ret ((ed_if (et_test ((ed_op o_eq ((ed_var 0)).l ((ed_str ".")).l)).l) (ed_str "-") (ed_str "."))).l))

theorem sc_Keyer_made : FnScope ["self"] ["self"] (defScope s_Keyer_made) := ⟨rfl, rfl, rfl, by decide +kernel, rfl, by decide +kernel, by decide +kernel⟩
theorem ok_Keyer_made (T : Txt K mg cl Tabl.C A D) : FnOk P w K mg base (L2N.CX P w) 1 A.Keyer_made D.Keyer_made ["self"] (spM K cl "Keyer" nm_Keyer 0 mt_Keyer_made) := by
  refine def_okM (k := 0) T.F_Keyer_made sc_Keyer_made (by decide) fun p cdv A' outer s H E hr => ?_
  letI : Tabl := meI ‹Tabl› p
  exact ⟨_, (PSs.nox (pss_one (ps_ret (pe_callTy (kx_list K rfl rfl) (by rfl) T.z_list (by decide +kernel) (pa_cons (pe_fld (pv 0) rfl) pa_nil))))), (es_nox (es_retM (ee_S ((ef_cb f_list (eb_cons (el_fld T.f_Keyer_rows) eb_nil))).s)))⟩

theorem sc_are_keys : FnScope ["thing", "one"] ["thing"] (defScope s_are_keys) := ⟨rfl, rfl, rfl, by decide +kernel, rfl, by decide +kernel, by decide +kernel⟩
theorem ok_are_keys (T : Txt K mg cl Tabl.C A D) : FnOk P w K mg base (L2N.CX P w) 1 A.are_keys D.are_keys ["thing"] (spF K cl 1 dn_are_keys) := by
  refine def_ok (k := 0) T.F_are_keys sc_are_keys fun cdv A' outer s H E hr => ⟨_, (PSs.nox (pss_one (ps_ret (pe_and (pe_callB (kx_isi K rfl) (by rfl) T.z_isinstance (by decide +kernel) (pa_cons (pv 0) (pa_cons (pe_bltn (v := .ty "tuple") (by rfl) T.z_tuple (by decide +kernel) rfl) pa_nil))) (pe_and (pe_cmpR (kx_eq K rfl hr.units) (pe_callB (kx_len K rfl) (by rfl) T.z_len (by decide +kernel) (pa_cons (pv 0) pa_nil)) pe_int (nomark _)) (pe_one (pe_callB (kx_all K rfl rfl) (by rfl) T.z_all (by decide +kernel) (pa_cons (pe_lc (own := [("one", 1)]) rfl sc_are_keys.nd (kpi_tup K rfl (pv 0)) (blkOk_by (N := ["thing", "one"]) (sc := defScope s_are_keys) (own := [("one", 1)]) (by decide +kernel)) (fun _ _ _ _ _ => (pg_name (i := 1) sc_are_keys.nd rfl (.inl rfl))) (fun _ _ _ _ _ => pts_nil) (fun _ _ _ _ _ => (pe_callB (kx_isi K rfl) (by rfl) T.z_isinstance (by decide +kernel) (pa_cons (pv 1) (pa_cons (pe_bltn (v := .ty "bool") (by rfl) T.z_bool (by decide +kernel) rfl) pa_nil))))) pa_nil)))))))), ?_⟩
  exact (es_nox (es_ret ((ed_andV ((ed_isi kit_tuple ((ed_var 0)).l)).l (ed_andV ((ed_op o_eq ((ed_cb n_len (eb_cons ((ed_var 0)).l eb_nil))).l ((ed_int 2)).l)).l (ed_cb n_all (eb_cons (((ef_lc (vs := [1]) (ei_tup (ed_var 0)) (ek_name 1) et_yes (ed_isi kit_bool ((ed_var 1)).l) (by decide))).s).l eb_nil))))).l))

theorem sc_presses : FnScope ["before", "held"] ["before", "held"] (defScope s_presses) := ⟨rfl, rfl, rfl, by decide +kernel, rfl, by decide +kernel, by decide +kernel⟩
theorem ok_presses (T : Txt K mg cl Tabl.C A D) : FnOk P w K mg base (L2N.CX P w) 1 A.presses D.presses ["before", "held"] (spF K cl 2 dn_presses) := by
  refine def_ok (k := 0) T.F_presses sc_presses fun cdv A' outer s H E hr => ⟨_, (PSs.nox (pss_one (ps_ret (pe_op op_addD (pe_callTy c_int (by rfl) T.z_int (by decide +kernel) (pa_cons (pe_and (pe_ix (kx_ix K rfl hr.units) (pv 1) pe_int (fun _ _ => rfl)) (pe_one (pe_not (pe_ix (kx_ix K rfl hr.units) (pv 0) pe_int (fun _ _ => rfl))))) pa_nil)) (pe_callTy c_int (by rfl) T.z_int (by decide +kernel) (pa_cons (pe_and (pe_ix (kx_ix K rfl hr.units) (pv 1) pe_int (fun _ _ => rfl)) (pe_one (pe_not (pe_ix (kx_ix K rfl hr.units) (pv 0) pe_int (fun _ _ => rfl))))) pa_nil)))))), ?_⟩
  exact (es_nox (es_ret ((ed_op o_add ((ed_cb n_int (eb_cons ((ed_andV ((ed_op o_ix ((ed_var 1)).l ((ed_int 0)).l)).l (ed_notV ((ed_op o_ix ((ed_var 0)).l ((ed_int 0)).l)).l))).l eb_nil))).l ((ed_cb n_int (eb_cons ((ed_andV ((ed_op o_ix ((ed_var 1)).l ((ed_int 1)).l)).l (ed_notV ((ed_op o_ix ((ed_var 0)).l ((ed_int 1)).l)).l))).l eb_nil))).l)).l))

theorem sc__law_cell : FnScope ["script", "k"] ["script", "k"] (defScope s__law_cell) := ⟨rfl, rfl, rfl, by decide +kernel, rfl, by decide +kernel, by decide +kernel⟩
theorem ok__law_cell (T : Txt K mg cl Tabl.C A D) : FnOk P w K mg base (L2N.CX P w) 1 A._law_cell D._law_cell ["script", "k"] (Dn.spCell K) := by
  refine okN (k := 0) T.F__law_cell sc__law_cell (fun vs H Q E ⟨_, _, _, h, _⟩ => by rw [h]; rfl) (fun cdv A' outer s H vs Q E hr h => ⟨tCellB K, ?_, cell_reads h⟩)
  exact pss_cons (ps_if (pt_cmpR (op_eqA hr.units) (pv 0) (pe_lst pa_nil) (nomark _)) (pss_one (ps_ret (pe_op op_mulD (pv 1) pe_int))) pss_nil)
    (pss_one (ps_ret (pe_op op_addD (pe_ix ix_seq (pv 0) (pe_op op_mod (pv 1) (pe_callB c_len (by rfl) T.z_len (by decide +kernel) (pa_cons (pv 0) pa_nil))) (fun _ _ => rfl)) (pe_op op_mulD (pe_op op_fdivW (pv 1) (pe_callB c_len (by rfl) T.z_len (by decide +kernel) (pa_cons (pv 0) pa_nil))) pe_int))))

theorem sc__law_drawn : FnScope ["cell", "k", "more"] ["cell", "k"] (defScope s__law_drawn) := ⟨rfl, rfl, rfl, by decide +kernel, rfl, by decide +kernel, by decide +kernel⟩
theorem ok__law_drawn (T : Txt K mg cl Tabl.C A D) : FnOk P w K mg base (L2N.CX P w) 1 A._law_drawn D._law_drawn ["cell", "k"] (spF K cl 2 dn__law_drawn) := by
  refine def_ok (k := 0) T.F__law_drawn sc__law_drawn fun cdv A' outer s H E hr => ⟨_, (PSs.nox (pss_cons (ps_set (i := 2) sc__law_drawn.nd rfl (.inl rfl) (pe_op op_mod (pe_op op_addD (pe_op op_mulD (pv 0) pe_int) (pe_op op_mulD (pe_op op_addD (pv 1) pe_int) pe_int)) pe_int))
      (pss_cons (ps_set (i := 2) sc__law_drawn.nd rfl (.inl rfl) (pe_op op_mod (pe_op op_mulD (pv 2) (pv 2)) pe_int))
      (pss_cons (ps_set (i := 2) sc__law_drawn.nd rfl (.inl rfl) (pe_op op_mulD (pe_op op_mulD (pe_op op_addD (pe_op op_mod (pv 2) pe_int) pe_int) (pe_op op_addD (pe_op op_fdivW (pv 2) pe_int) pe_int)) (pv 2)))
      (pss_one (ps_ret (pe_op op_mod (pv 2) pe_int))))))), ?_⟩
  exact (es_nox (es_seq (es_asg (ed_op o_mod ((ed_op o_add ((ed_op o_mul ((ed_var 0)).l ((ed_int 6364136223846793005)).l)).l ((ed_op o_mul ((ed_op o_add ((ed_var 1)).l ((ed_int 1)).l)).l ((ed_int 1442695040888963407)).l)).l)).l ((ed_int 340282366920938463463374607431768211507)).l))
      (es_seq (es_asg (ed_op o_mod ((ed_op o_mul ((ed_var 2)).l ((ed_var 2)).l)).l ((ed_int 340282366920938463463374607431768211297)).l))
      (es_seq (es_asg (ed_op o_mul ((ed_op o_mul ((ed_op o_add ((ed_op o_mod ((ed_var 2)).l ((ed_int 18446744073709551557)).l)).l ((ed_int 1)).l)).l ((ed_op o_add ((ed_op o_fdiv ((ed_var 2)).l ((ed_int 18446744073709551557)).l)).l ((ed_int 1)).l)).l)).l ((ed_var 2)).l))
      (es_ret ((ed_op o_mod ((ed_var 2)).l ((ed_int 340282366920938463463374607431768211507)).l)).l)))))

theorem sc__law_code : FnScope ["number", "found"] ["number"] (defScope s__law_code) := ⟨rfl, rfl, rfl, by decide +kernel, rfl, by decide +kernel, by decide +kernel⟩
theorem ok__law_code (T : Txt K mg cl Tabl.C A D) : FnOk P w K mg base (L2N.CX P w) 1 A._law_code D._law_code ["number"] (spF K cl 1 dn__law_code) := by
  refine def_ok (k := 0) T.F__law_code sc__law_code fun cdv A' outer s H E hr => ⟨_, (PSs.nox (pss_cons (ps_set (i := 1) sc__law_code.nd rfl (.inl rfl) pe_str)
      (pss_cons (ps_while PassesOwn.never (pt_cmpR op_gt (pv 0) pe_int (nomark _)) (pss_cons (ps_set (i := 1) sc__law_code.nd rfl (.inl rfl) (pe_op op_addD (pe_ix (kx_ix K rfl hr.units) pe_str (pe_op op_mod (pv 0) pe_int) (fun _ _ => rfl)) (pv 1)))
      (pss_one (ps_set (i := 0) sc__law_code.nd rfl (.inl rfl) (pe_op op_fdivW (pv 0) pe_int)))))
      (pss_one (ps_ret (pv 1)))))), ?_⟩
  exact (es_nox (es_seq (es_asg (ed_str ""))
      (es_seq (es_while 130 (et_test ((ed_op o_gt ((ed_var 0)).l ((ed_int 1)).l)).l) (es_seq (es_asg (ed_op o_add ((ed_op o_ix ((ed_str ".-")).l ((ed_op o_mod ((ed_var 0)).l ((ed_int 2)).l)).l)).l ((ed_var 1)).l))
      (es_asg (ed_op o_fdiv ((ed_var 0)).l ((ed_int 2)).l))))
      (es_ret ((ed_var 1)).l))))

theorem sc__law_speed : FnScope ["more", "unit"] ["more"] (defScope s__law_speed) := ⟨rfl, rfl, rfl, by decide +kernel, rfl, by decide +kernel, by decide +kernel⟩
theorem ok__law_speed (T : Txt K mg cl Tabl.C A D) : FnOk P w K mg base (L2N.CX P w) 1 A._law_speed D._law_speed ["more"] (spF K cl 1 dn__law_speed) := by
  refine def_ok (k := 0) T.F__law_speed sc__law_speed fun cdv A' outer s H E hr => ⟨_, (PSs.nox (pss_cons (ps_set (i := 1) sc__law_speed.nd rfl (.inl rfl) (pe_op op_addD pe_int (pe_op op_mod (pe_op op_fdivW (pv 0) pe_int) (pe_ix (kx_ix K rfl hr.units) (pe_lst (pa_cons pe_int (pa_cons pe_int pa_nil))) (pe_op op_mod (pv 0) pe_int) (fun _ _ => rfl)))))
      (pss_one (ps_ret (pe_tup (pa_cons (pv 1) (pa_cons (pe_ix (kx_ix K rfl hr.units) (pe_lst (pa_cons pe_int (pa_cons (pe_op op_addD (pe_op op_sub (pe_op op_mod (pe_op op_fdivW (pv 0) pe_int) (pe_op op_sub (pe_op op_mulD pe_int (pv 1)) pe_int)) (pv 1)) pe_int) pa_nil))) (pe_op op_mod (pe_op op_fdivW (pv 0) pe_int) pe_int) (fun _ _ => rfl)) pa_nil))))))), ?_⟩
  exact (es_nox (es_seq (es_asg (ed_op o_add ((ed_int 1)).l ((ed_op o_mod ((ed_op o_fdiv ((ed_var 0)).l ((ed_int 8)).l)).l ((ed_op o_ix ((ed_lst (ea_cons (ed_int 9) (ea_cons (ed_int 3) ea_nil)))).l ((ed_op o_mod ((ed_var 0)).l ((ed_int 2)).l)).l)).l)).l))
      (es_ret ((ed_tup (ea_cons (ed_var 1) (ea_cons (ed_op o_ix ((ed_lst (ea_cons (ed_int 0) (ea_cons (ed_op o_add ((ed_op o_sub ((ed_op o_mod ((ed_op o_fdiv ((ed_var 0)).l ((ed_int 512)).l)).l ((ed_op o_sub ((ed_op o_mul ((ed_int 2)).l ((ed_var 1)).l)).l ((ed_int 1)).l)).l)).l ((ed_var 1)).l)).l ((ed_int 1)).l) ea_nil)))).l ((ed_op o_mod ((ed_op o_fdiv ((ed_var 0)).l ((ed_int 64)).l)).l ((ed_int 2)).l)).l) ea_nil)))).l)))

theorem sc__law_tone : FnScope ["speed", "element"] ["speed", "element"] (defScope s__law_tone) := ⟨rfl, rfl, rfl, by decide +kernel, rfl, by decide +kernel, by decide +kernel⟩
theorem ok__law_tone (T : Txt K mg cl Tabl.C A D) : FnOk P w K mg base (L2N.CX P w) 1 A._law_tone D._law_tone ["speed", "element"] (spF K cl 2 dn__law_tone) := by
  refine def_ok (k := 0) T.F__law_tone sc__law_tone fun cdv A' outer s H E hr => ⟨_, (PSs.nox (pss_one (ps_ret (pe_op op_addD (pe_op op_mulD (pe_ix (kx_ix K rfl hr.units) (pv 0) pe_int (fun _ _ => rfl)) (pe_ifExp (pt_cmpR (kx_eq K rfl hr.units) (pv 1) pe_str (nomark _)) pe_int pe_int)) (pe_ix (kx_ix K rfl hr.units) (pv 0) pe_int (fun _ _ => rfl)))))), ?_⟩
  exact (es_nox (es_ret ((ed_op o_add ((ed_op o_mul ((ed_op o_ix ((ed_var 0)).l ((ed_int 0)).l)).l ((ed_if (et_test ((ed_op o_eq ((ed_var 1)).l ((ed_str "-")).l)).l) (ed_int 3) (ed_int 1))).l)).l ((ed_op o_ix ((ed_var 0)).l ((ed_int 1)).l)).l)).l))

theorem sc_need_code : FnScope ["code"] ["code"] (defScope s_need_code) := ⟨rfl, rfl, rfl, by decide +kernel, rfl, by decide +kernel, by decide +kernel⟩
theorem ok_need_code (T : Txt K mg cl Tabl.C A D) : FnOk P w K mg base (L2N.CX P w) 2 A.need_code D.need_code ["code"] (spF K cl 1 dn_need_code) := by
  refine def_ok (k := 1) T.F_need_code sc_need_code fun cdv A' outer s H E hr => ⟨_, (pss_one (ps_if (pt_not (pt_val (pe_call (ok_is_code (K := K) T) (hr.mono (by decide)) (by rfl) T.g_is_code T.F_is_code.kp T.b_is_code .nil (L2N.passes_call (L2N.takes_of rfl rfl rfl rfl) fun _ _ _ _ h => h) (pa_cons (pv 0) pa_nil)))) (pss_one (L2N.ps_raise rfl (L2N.takes_of rfl rfl rfl rfl) (L2N.pmk_own PySem.F.excBase_ValueError T.x_BadCode T.ge_BadCode T.k_BadCode (raises_own T.eb_BadCode T.t_BadCode) rfl))) pss_nil)), ?_⟩
  exact (es_if (et_not (et_B ((ed_call (hn_cons hn_nil) (ea_cons (ed_var 0) ea_nil))).l)) (es_raise "BadCode") es_nil)

theorem sc_is_speed : FnScope ["thing"] ["thing"] (defScope s_is_speed) := ⟨rfl, rfl, rfl, by decide +kernel, rfl, by decide +kernel, by decide +kernel⟩
theorem ok_is_speed (T : Txt K mg cl Tabl.C A D) : FnOk P w K mg base (L2N.CX P w) 2 A.is_speed D.is_speed ["thing"] (spF K cl 1 dn_is_speed) := by
  refine def_ok (k := 1) T.F_is_speed sc_is_speed fun cdv A' outer s H E hr => ⟨_, (PSs.nox (pss_cons (ps_if (PW.pt (pw_or (pt_not (pt_val (pe_callB (kx_isi K rfl) (by rfl) T.z_isinstance (by decide +kernel) (pa_cons (pv 0) (pa_cons (pe_bltn (v := .ty "tuple") (by rfl) T.z_tuple (by decide +kernel) rfl) pa_nil))))) (pw_or (pt_cmpR (kx_ne K rfl hr.units) (pe_callB (kx_len K rfl) (by rfl) T.z_len (by decide +kernel) (pa_cons (pv 0) pa_nil)) pe_int (nomark _)) (pw_or1 (pt_not (pt_val (pe_call (ok_is_count (K := K) T) (hr.mono (by decide)) (by rfl) T.g_is_count T.F_is_count.kp T.b_is_count .nil passN (pa_cons (pe_ix (kx_ix K rfl hr.units) (pv 0) pe_int (fun _ _ => rfl)) (pa_cons pe_int (pa_cons (kpe_c K T.c_MOST_UNIT rfl rfl) pa_nil)))))))))) (pss_one (ps_ret pe_bl)) pss_nil)
      (pss_one (ps_ret (pe_call (ok_is_count (K := K) T) (hr.mono (by decide)) (by rfl) T.g_is_count T.F_is_count.kp T.b_is_count .nil passN (pa_cons (pe_ix (kx_ix K rfl hr.units) (pv 0) pe_int (fun _ _ => rfl)) (pa_cons (pe_op op_sub pe_int (pe_ix (kx_ix K rfl hr.units) (pv 0) pe_int (fun _ _ => rfl))) (pa_cons (pe_op op_sub (pe_ix (kx_ix K rfl hr.units) (pv 0) pe_int (fun _ _ => rfl)) pe_int) pa_nil)))))))), ?_⟩
  exact (es_nox (es_seq (es_if (et_or (et_not (et_B ((ed_isi kit_tuple ((ed_var 0)).l)).l)) (et_or (et_test ((ed_op o_ne ((ed_cb n_len (eb_cons ((ed_var 0)).l eb_nil))).l ((ed_int 2)).l)).l) (et_not (et_B ((ed_call (hn_cons (hn_cons (hn_cons hn_nil))) (ea_cons (ed_op o_ix ((ed_var 0)).l ((ed_int 0)).l) (ea_cons (ed_int 1) (ea_cons (ed_k T.r_MOST_UNIT) ea_nil))))).l)))) (es_ret ((ed_bl false)).l) es_nil)
      (es_ret ((ed_call (hn_cons (hn_cons (hn_cons hn_nil))) (ea_cons (ed_op o_ix ((ed_var 0)).l ((ed_int 1)).l) (ea_cons (ed_op o_sub ((ed_int 1)).l ((ed_op o_ix ((ed_var 0)).l ((ed_int 0)).l)).l) (ea_cons (ed_op o_sub ((ed_op o_ix ((ed_var 0)).l ((ed_int 0)).l)).l ((ed_int 1)).l) ea_nil))))).l)))

theorem sc_Keyer_wish : FnScope ["self", "left", "right"] ["self", "left", "right"] (defScope s_Keyer_wish) := ⟨rfl, rfl, rfl, by decide +kernel, rfl, by decide +kernel, by decide +kernel⟩
theorem ok_Keyer_wish (T : Txt K mg cl Tabl.C A D) : FnOk P w K mg base (L2N.CX P w) 2 A.Keyer_wish D.Keyer_wish ["self", "left", "right"] (spM K cl "Keyer" nm_Keyer 2 mt_Keyer_wish) := by
  refine def_okM (k := 1) T.F_Keyer_wish sc_Keyer_wish (by decide) fun p cdv A' outer s H E hr => ?_
  letI : Tabl := meI ‹Tabl› p
  exact ⟨_, (PSs.nox (pss_cons (ps_if (pt_cmpR (kx_ne K rfl hr.units) (pe_fld (pv 0) rfl) pe_str (nomark _)) (pss_one (ps_ret (pe_fld (pv 0) rfl))) pss_nil)
      (pss_cons (ps_if (PW.pt (pw_and (pt_val (pv 1)) (pw_and1 (pt_val (pv 2))))) (pss_cons (ps_if (PW.pt (pw_or (pt_cmpR (kx_eq K rfl hr.units) (pe_fld (pv 0) rfl) pe_str (nomark _)) (pw_or1 (pt_cmpR (kx_eq K rfl hr.units) (pe_fld (pv 0) rfl) pe_str (nomark _))))) (pss_one (ps_ret pe_str)) pss_nil)
      (pss_one (ps_ret (pe_call (ok_other_one (K := K) T) (hr.mono (by decide)) (by rfl) T.g_other_one T.F_other_one.kp T.b_other_one .nil passN (pa_cons (pe_fld (pv 0) rfl) pa_nil))))) pss_nil)
      (pss_cons (ps_if (PW.pt (pw_or (pt_val (pv 1)) (pw_or1 (pt_val (pv 2))))) (pss_one (ps_ret (pe_ifExp (pt_val (pv 1)) pe_str pe_str))) pss_nil)
      (pss_cons (ps_if (PW.pt (pw_and (pt_cmpR (kx_eq K rfl hr.units) (pe_fld (pv 0) rfl) pe_str (nomark _)) (pw_and1 (pt_val (pe_fld (pv 0) rfl))))) (pss_one (ps_ret (pe_call (ok_other_one (K := K) T) (hr.mono (by decide)) (by rfl) T.g_other_one T.F_other_one.kp T.b_other_one .nil passN (pa_cons (pe_fld (pv 0) rfl) pa_nil)))) pss_nil)
      (pss_one (ps_ret pe_str))))))), (es_nox (es_seq (es_if (et_test ((ed_op o_ne ((ed_fld T.f_Keyer_ahead)).l ((ed_str "")).l)).l) (es_retM (ee_S (ed_fld T.f_Keyer_ahead))) es_nil)
      (es_seq (es_if (et_and (et_B ((ed_var 1)).l) (et_B ((ed_var 2)).l)) (es_seq (es_if (et_or (et_test ((ed_op o_eq ((ed_fld T.f_Keyer_manner)).l ((ed_str "plain")).l)).l) (et_test ((ed_op o_eq ((ed_fld T.f_Keyer_element)).l ((ed_str "")).l)).l)) (es_retM (ee_S (ed_str "."))) es_nil)
      (es_retM (ee_S (ed_call (hn_cons hn_nil) (ea_cons (ed_fld T.f_Keyer_element) ea_nil))))) es_nil)
      (es_seq (es_if (et_or (et_B ((ed_var 1)).l) (et_B ((ed_var 2)).l)) (es_retM (ee_S (ed_if (et_B ((ed_var 1)).l) (ed_str ".") (ed_str "-")))) es_nil)
      (es_seq (es_if (et_and (et_test ((ed_op o_eq ((ed_fld T.f_Keyer_manner)).l ((ed_str "b")).l)).l) (et_B ((ed_fld T.f_Keyer_is_squeezed)).l)) (es_retM (ee_S (ed_call (hn_cons hn_nil) (ea_cons (ed_fld T.f_Keyer_element) ea_nil)))) es_nil)
      (es_retM (ee_S (ed_str ""))))))))⟩

theorem sc_Keyer_note : FnScope ["self", "left", "right", "is_pressed"] ["self", "left", "right"] (defScope s_Keyer_note) := ⟨rfl, rfl, rfl, by decide +kernel, rfl, by decide +kernel, by decide +kernel⟩
theorem ok_Keyer_note (T : Txt K mg cl Tabl.C A D) : FnOk P w K mg base (L2N.CX P w) 2 A.Keyer_note D.Keyer_note ["self", "left", "right"] (spM K cl "Keyer" nm_Keyer 2 mt_Keyer_note) := by
  refine def_okM (k := 1) T.F_Keyer_note sc_Keyer_note (by decide) fun p cdv A' outer s H E hr => ?_
  letI : Tabl := meI ‹Tabl› p
  exact ⟨_, (PSs.nox (pss_cons (ps_set (i := 3) sc_Keyer_note.nd rfl (.inl rfl) (pe_ifExp (pt_cmpR (kx_eq K rfl hr.units) (pe_fld (pv 0) rfl) pe_str (nomark _)) (pe_and (pv 2) (pe_one (pe_not (pe_ix (kx_ix K rfl hr.units) (pe_fld (pv 0) rfl) pe_int (fun _ _ => rfl))))) (pe_and (pv 1) (pe_one (pe_not (pe_ix (kx_ix K rfl hr.units) (pe_fld (pv 0) rfl) pe_int (fun _ _ => rfl)))))))
      (pss_cons (ps_if (PW.pt (pw_and (pt_cmpR (kx_ne K rfl hr.units) (pe_fld (pv 0) rfl) pe_str (nomark _)) (pw_and1 (pt_val (pv 3))))) (pss_one (ps_fld (pv 0) (pe_call (ok_other_one (K := K) T) (hr.mono (by decide)) (by rfl) T.g_other_one T.F_other_one.kp T.b_other_one .nil passN (pa_cons (pe_fld (pv 0) rfl) pa_nil)) rfl)) pss_nil)
      (pss_one (ps_if (PW.pt (pw_and (pt_val (pv 1)) (pw_and1 (pt_val (pv 2))))) (pss_one (ps_fld (pv 0) pe_bl rfl)) pss_nil))))), (es_nox (es_seq (es_asg (ed_if (et_test ((ed_op o_eq ((ed_fld T.f_Keyer_element)).l ((ed_str ".")).l)).l) (ed_andV ((ed_var 2)).l (ed_notV ((ed_op o_ix ((ed_fld T.f_Keyer_held)).l ((ed_int 1)).l)).l)) (ed_andV ((ed_var 1)).l (ed_notV ((ed_op o_ix ((ed_fld T.f_Keyer_held)).l ((ed_int 0)).l)).l))))
      (es_seq (es_if (et_and (et_test ((ed_op o_ne ((ed_fld T.f_Keyer_manner)).l ((ed_str "plain")).l)).l) (et_B ((ed_var 3)).l)) (es_fldE T.f_Keyer_ahead (ee_S (ed_call (hn_cons hn_nil) (ea_cons (ed_fld T.f_Keyer_element) ea_nil)))) es_nil)
      (es_if (et_and (et_B ((ed_var 1)).l) (et_B ((ed_var 2)).l)) (es_fldE T.f_Keyer_is_squeezed (ee_S (ed_bl true))) es_nil))))⟩

theorem sc_need_hand : FnScope ["hand", "keys"] ["hand"] (defScope s_need_hand) := ⟨rfl, rfl, rfl, by decide +kernel, rfl, by decide +kernel, by decide +kernel⟩
theorem ok_need_hand (T : Txt K mg cl Tabl.C A D) : FnOk P w K mg base (L2N.CX P w) 2 A.need_hand D.need_hand ["hand"] (spF K cl 1 dn_need_hand) := by
  refine def_ok (k := 1) T.F_need_hand sc_need_hand fun cdv A' outer s H E hr => ⟨_, (pss_cons (ps_if (PW.pt (pw_or (pt_not (pt_val (pe_callB (kx_isi K rfl) (by rfl) T.z_isinstance (by decide +kernel) (pa_cons (pv 0) (pa_cons (pe_bltn (v := .ty "list") (by rfl) T.z_list (by decide +kernel) rfl) pa_nil))))) (pw_or1 (pt_cmpR op_gt (pe_callB (kx_len K rfl) (by rfl) T.z_len (by decide +kernel) (pa_cons (pv 0) pa_nil)) (kpe_c K T.c_MOST_HAND rfl rfl) (nomark _))))) (pss_one (L2N.ps_raise rfl (L2N.takes_of rfl rfl rfl rfl) (L2N.pmk_own PySem.F.excBase_ValueError T.x_BadHand T.ge_BadHand T.k_BadHand (raises_own T.eb_BadHand T.t_BadHand) rfl))) pss_nil)
      (pss_one (ps_if (pt_not (pt_val (pe_callB (kx_all K rfl rfl) (by rfl) T.z_all (by decide +kernel) (pa_cons (pe_lc (own := [("keys", 1)]) rfl sc_need_hand.nd (kpi_list K rfl (pv 0)) (blkOk_by (N := ["hand", "keys"]) (sc := defScope s_need_hand) (own := [("keys", 1)]) (by decide +kernel)) (fun _ _ _ _ _ => (pg_name (i := 1) sc_need_hand.nd rfl (.inl rfl))) (fun _ _ _ _ _ => pts_nil) (fun _ _ _ _ _ => (pe_call (ok_are_keys (K := K) T) (hr.mono (by decide)) (by rfl) T.g_are_keys T.F_are_keys.kp T.b_are_keys .nil passN (pa_cons (pv 1) pa_nil)))) pa_nil)))) (pss_one (L2N.ps_raise rfl (L2N.takes_of rfl rfl rfl rfl) (L2N.pmk_own PySem.F.excBase_ValueError T.x_BadHand T.ge_BadHand T.k_BadHand (raises_own T.eb_BadHand T.t_BadHand) rfl))) pss_nil))), ?_⟩
  exact (es_seq (es_if (et_or (et_not (et_B ((ed_isi kit_list ((ed_var 0)).l)).l)) (et_test ((ed_op o_gt ((ed_cb n_len (eb_cons ((ed_var 0)).l eb_nil))).l ((ed_k T.r_MOST_HAND)).l)).l)) (es_raise "BadHand") es_nil)
      (es_if (et_not (et_B ((ed_cb n_all (eb_cons (((ef_lc (vs := [1]) (ei_list (ed_var 0)) (ek_name 1) et_yes (ed_call (hn_cons hn_nil) (ea_cons (ed_var 1) ea_nil)) (by decide))).s).l eb_nil))).l)) (es_raise "BadHand") es_nil))

theorem sc_comes : FnScope ["manner", "before", "held", "last"] ["manner", "before", "held", "last"] (defScope s_comes) := ⟨rfl, rfl, rfl, by decide +kernel, rfl, by decide +kernel, by decide +kernel⟩
theorem ok_comes (T : Txt K mg cl Tabl.C A D) : FnOk P w K mg base (L2N.CX P w) 2 A.comes D.comes ["manner", "before", "held", "last"] (spF K cl 4 dn_comes) := by
  refine def_ok (k := 1) T.F_comes sc_comes fun cdv A' outer s H E hr => ⟨_, (PSs.nox (pss_cons (ps_if (pt_cmpR (kx_eq K rfl hr.units) (pv 2) (pe_tup (pa_cons pe_bl (pa_cons pe_bl pa_nil))) (nomark _)) (pss_one (ps_ret (pe_ifExp (PW.pt (pw_or (pt_cmpR (kx_eq K rfl hr.units) (pv 0) pe_str (nomark _)) (pw_or1 (pt_cmpR (kx_eq K rfl hr.units) (pv 3) pe_str (nomark _))))) pe_str (pe_call (ok_other_one (K := K) T) (hr.mono (by decide)) (by rfl) T.g_other_one T.F_other_one.kp T.b_other_one .nil passN (pa_cons (pv 3) pa_nil))))) pss_nil)
      (pss_cons (ps_if (pt_cmpR (kx_ne K rfl hr.units) (pv 2) (pe_tup (pa_cons pe_bl (pa_cons pe_bl pa_nil))) (nomark _)) (pss_one (ps_ret (pe_ifExp (pt_val (pe_ix (kx_ix K rfl hr.units) (pv 2) pe_int (fun _ _ => rfl))) pe_str pe_str))) pss_nil)
      (pss_one (ps_ret (pe_ifExp (PW.pt (pw_and (pt_cmpR (kx_eq K rfl hr.units) (pv 0) pe_str (nomark _)) (pw_and1 (pt_cmpR (kx_eq K rfl hr.units) (pv 1) (pe_tup (pa_cons pe_bl (pa_cons pe_bl pa_nil))) (nomark _))))) (pe_call (ok_other_one (K := K) T) (hr.mono (by decide)) (by rfl) T.g_other_one T.F_other_one.kp T.b_other_one .nil passN (pa_cons (pv 3) pa_nil)) pe_str)))))), ?_⟩
  exact (es_nox (es_seq (es_if (et_test ((ed_op o_eq ((ed_var 2)).l ((ed_tup (ea_cons (ed_bl true) (ea_cons (ed_bl true) ea_nil)))).l)).l) (es_ret ((ed_if (et_or (et_test ((ed_op o_eq ((ed_var 0)).l ((ed_str "plain")).l)).l) (et_test ((ed_op o_eq ((ed_var 3)).l ((ed_str "")).l)).l)) (ed_str ".") (ed_call (hn_cons hn_nil) (ea_cons (ed_var 3) ea_nil)))).l) es_nil)
      (es_seq (es_if (et_test ((ed_op o_ne ((ed_var 2)).l ((ed_tup (ea_cons (ed_bl false) (ea_cons (ed_bl false) ea_nil)))).l)).l) (es_ret ((ed_if (et_B ((ed_op o_ix ((ed_var 2)).l ((ed_int 0)).l)).l) (ed_str ".") (ed_str "-"))).l) es_nil)
      (es_ret ((ed_if (et_and (et_test ((ed_op o_eq ((ed_var 0)).l ((ed_str "b")).l)).l) (et_test ((ed_op o_eq ((ed_var 1)).l ((ed_tup (ea_cons (ed_bl true) (ea_cons (ed_bl true) ea_nil)))).l)).l)) (ed_call (hn_cons hn_nil) (ea_cons (ed_var 3) ea_nil)) (ed_str ""))).l))))

theorem sc_need_speed : FnScope ["speed"] ["speed"] (defScope s_need_speed) := ⟨rfl, rfl, rfl, by decide +kernel, rfl, by decide +kernel, by decide +kernel⟩
theorem ok_need_speed (T : Txt K mg cl Tabl.C A D) : FnOk P w K mg base (L2N.CX P w) 3 A.need_speed D.need_speed ["speed"] (spF K cl 1 dn_need_speed) := by
  refine def_ok (k := 2) T.F_need_speed sc_need_speed fun cdv A' outer s H E hr => ⟨_, (pss_one (ps_if (pt_not (pt_val (pe_call (ok_is_speed (K := K) T) (hr.mono (by decide)) (by rfl) T.g_is_speed T.F_is_speed.kp T.b_is_speed .nil (L2N.passes_call (L2N.takes_of rfl rfl rfl rfl) fun _ _ _ _ h => h) (pa_cons (pv 0) pa_nil)))) (pss_one (L2N.ps_raise rfl (L2N.takes_of rfl rfl rfl rfl) (L2N.pmk_own PySem.F.excBase_ValueError T.x_BadNumber T.ge_BadNumber T.k_BadNumber (raises_own T.eb_BadNumber T.t_BadNumber) rfl))) pss_nil)), ?_⟩
  exact (es_if (et_not (et_B ((ed_call (hn_cons hn_nil) (ea_cons (ed_var 0) ea_nil))).l)) (es_raise "BadNumber") es_nil)

theorem sc_Keyer_begin : FnScope ["self", "left", "right"] ["self", "left", "right"] (defScope s_Keyer_begin) := ⟨rfl, rfl, rfl, by decide +kernel, rfl, by decide +kernel, by decide +kernel⟩
theorem ok_Keyer_begin (T : Txt K mg cl Tabl.C A D) : FnOk P w K mg base (L2N.CX P w) 3 A.Keyer_begin D.Keyer_begin ["self", "left", "right"] (spM K cl "Keyer" nm_Keyer 2 mt_Keyer_begin) := by
  refine def_okM (k := 2) T.F_Keyer_begin sc_Keyer_begin (by decide) fun p cdv A' outer s H E hr => ?_
  letI : Tabl := meI ‹Tabl› p
  exact ⟨_, (PSs.nox (pss_cons (ps_fld (pv 0) (pe_meth (pv 0) T.cl_Keyer T.m_Keyer_wish (ok_Keyer_wish (K := K) T) (hr.mono (by decide)) T.b_Keyer_wish .nil passN (pa_cons (pv 1) (pa_cons (pv 2) pa_nil))) rfl)
      (pss_cons (ps_fld (pv 0) pe_str rfl)
      (pss_cons (ps_fld (pv 0) (pe_and (pv 1) (pe_one (pv 2))) rfl)
      (pss_one (ps_if (pt_cmpR (kx_ne K rfl hr.units) (pe_fld (pv 0) rfl) pe_str (nomark _)) (pss_cons (ps_expr (pe_bm PySem.F.plainAttrs_list PySem.F.slot_list_append PySem.F.type_list_append mt_append (pe_fld (pv 0) rfl) (pa_cons (pe_tup (pa_cons (pe_fld (pv 0) rfl) (pa_cons (pe_fld (pv 0) rfl) pa_nil))) pa_nil)))
      (pss_cons (ps_fld (pv 0) (pe_call (ok_tone_long (K := K) T) (hr.mono (by decide)) (by rfl) T.g_tone_long T.F_tone_long.kp T.b_tone_long .nil passN (pa_cons (pe_fld (pv 0) rfl) (pa_cons (pe_fld (pv 0) rfl) pa_nil))) rfl)
      (pss_one (ps_fld (pv 0) (pe_call (ok_gap_long (K := K) T) (hr.mono (by decide)) (by rfl) T.g_gap_long T.F_gap_long.kp T.b_gap_long .nil passN (pa_cons (pe_fld (pv 0) rfl) (pa_cons pe_int pa_nil))) rfl)))) pss_nil)))))), (es_nox (es_seq (es_fldE T.f_Keyer_element (ee_X (ex_meth (by decide +kernel) (hne_S (hn_cons (hn_cons hn_nil))) (eea_S (ea_cons (ed_var 1) (ea_cons (ed_var 2) ea_nil))))))
      (es_seq (es_fldE T.f_Keyer_ahead (ee_S (ed_str "")))
      (es_seq (es_fldE T.f_Keyer_is_squeezed (ee_S (ed_andV ((ed_var 1)).l (ed_var 2))))
      (es_if (et_test ((ed_op o_ne ((ed_fld T.f_Keyer_element)).l ((ed_str "")).l)).l) (es_seq (es_fldApp T.f_Keyer_rows (ed_tup (ea_cons (ed_fld T.f_Keyer_clock) (ea_cons (ed_fld T.f_Keyer_element) ea_nil))))
      (es_seq (es_fldE T.f_Keyer_tone_left (ee_S (ed_call (hn_cons (hn_cons hn_nil)) (ea_cons (ed_fld T.f_Keyer_speed) (ea_cons (ed_fld T.f_Keyer_element) ea_nil)))))
      (es_fldE T.f_Keyer_gap_left (ee_S (ed_call (hn_cons (hn_cons hn_nil)) (ea_cons (ed_fld T.f_Keyer_speed) (ea_cons (ed_int 1) ea_nil))))))) es_nil)))))⟩

theorem sc_Keyer_is_at_rest : FnScope ["self"] ["self"] (defScope s_Keyer_is_at_rest) := ⟨rfl, rfl, rfl, by decide +kernel, rfl, by decide +kernel, by decide +kernel⟩
theorem ok_Keyer_is_at_rest (T : Txt K mg cl Tabl.C A D) : FnOk P w K mg base (L2N.CX P w) 3 A.Keyer_is_at_rest D.Keyer_is_at_rest ["self"] (spM K cl "Keyer" nm_Keyer 0 mt_Keyer_is_at_rest) := by
  refine def_okM (k := 2) T.F_Keyer_is_at_rest sc_Keyer_is_at_rest (by decide) fun p cdv A' outer s H E hr => ?_
  letI : Tabl := meI ‹Tabl› p
  exact ⟨_, (PSs.nox (pss_one (ps_ret (pe_and (pe_cmpR (kx_eq K rfl hr.units) (pe_op op_addD (pe_fld (pv 0) rfl) (pe_fld (pv 0) rfl)) pe_int (nomark _)) (pe_one (pe_cmpR (kx_eq K rfl hr.units) (pe_meth (pv 0) T.cl_Keyer T.m_Keyer_wish (ok_Keyer_wish (K := K) T) (hr.mono (by decide)) T.b_Keyer_wish .nil passN (pa_cons pe_bl (pa_cons pe_bl pa_nil))) pe_str (nomark _))))))), (es_nox (es_retM (ee_andV (ee_S (ed_op o_eq ((ed_op o_add ((ed_fld T.f_Keyer_tone_left)).l ((ed_fld T.f_Keyer_gap_left)).l)).l ((ed_int 0)).l)) (ee_op o_eq (ee_X (ex_meth (by decide +kernel) (hne_S (hn_cons (hn_cons hn_nil))) (eea_S (ea_cons (ed_bl false) (ea_cons (ed_bl false) ea_nil))))) (ee_S (ed_str ""))))))⟩

theorem sc_holds_for : FnScope ["manner", "code", "rows", "last", "element", "later", "before", "held", "more", "some"] ["manner", "code"] (defScope s_holds_for) := ⟨rfl, rfl, rfl, by decide +kernel, rfl, by decide +kernel, by decide +kernel⟩
theorem ok_holds_for (T : Txt K mg cl Tabl.C A D) : FnOk P w K mg base (L2N.CX P w) 3 A.holds_for D.holds_for ["manner", "code"] (spF K cl 2 dn_holds_for) := by
  refine def_ok (k := 2) T.F_holds_for sc_holds_for fun cdv A' outer s H E hr => ⟨_, (PSs.nox (pss_cons (ps_set (i := 2) sc_holds_for.nd rfl (.inl rfl) (kpe_bdisp K rfl hr.units (pe_tup (pa_cons pe_bl (pa_cons pe_bl pa_nil))) (pe_tup (pa_cons pe_int (pa_cons (pe_lst pa_nil) pa_nil)))))
      (pss_cons (ps_set (i := 3) sc_holds_for.nd rfl (.inl rfl) pe_str)
      (pss_cons (ps_for PassesOwn.never rfl (pi_str (pv 1)) (pg_name (i := 4) sc_holds_for.nd rfl (.inl rfl)) (pss_cons (ps_set (i := 5) sc_holds_for.nd rfl (.inl rfl) pe_bnew)
      (pss_cons (ps_for PassesOwn.never rfl (kpi_tup K rfl (kpe_t K T.c_HOLDS rfl rfl)) (pg_name (i := 6) sc_holds_for.nd rfl (.inl rfl)) (pss_one (ps_for PassesOwn.never rfl (kpi_tup K rfl (kpe_t K T.c_HOLDS rfl rfl)) (pg_name (i := 7) sc_holds_for.nd rfl (.inl rfl)) (pss_one (ps_if (PW.pt (pw_and (pt_cmpR (kx_inB K rfl hr.units) (pv 6) (pv 2) (by with_unfolding_all rfl)) (pw_and1 (pt_cmpR (kx_eq K rfl hr.units) (pe_call (ok_comes (K := K) T) (hr.mono (by decide)) (by rfl) T.g_comes T.F_comes.kp T.b_comes .nil passN (pa_cons (pv 0) (pa_cons (pv 6) (pa_cons (pv 7) (pa_cons (pv 3) pa_nil))))) (pv 4) (nomark _))))) (pss_cons (ps_set (i := 8) sc_holds_for.nd rfl (.inl rfl) (pe_tup (pa_cons (pe_op op_addD (pe_ix (kx_ix K rfl hr.units) (kpe_bget K rfl hr.units (pv 2) (pv 6) (fun _ _ => rfl)) pe_int (fun _ _ => rfl)) (pe_call (ok_presses (K := K) T) (hr.mono (by decide)) (by rfl) T.g_presses T.F_presses.kp T.b_presses .nil passN (pa_cons (pv 6) (pa_cons (pv 7) pa_nil)))) (pa_cons (pe_op op_addD (pe_ix (kx_ix K rfl hr.units) (kpe_bget K rfl hr.units (pv 2) (pv 6) (fun _ _ => rfl)) pe_int (fun _ _ => rfl)) (pe_lst (pa_cons (pv 7) pa_nil))) pa_nil))))
      (pss_one (ps_if (PW.pt (pw_or (pt_cmpR (kx_notinB K rfl hr.units) (pv 7) (pv 5) (by with_unfolding_all rfl)) (pw_or1 (pt_cmpR (kx_ltA K rfl hr.units) (pv 8) (kpe_bget K rfl hr.units (pv 5) (pv 7) (fun _ _ => rfl)) (nomark _))))) (pss_one (kps_bput K rfl hr.units (pv 5) (pv 7) (pv 8) rfl)) pss_nil))) pss_nil)))))
      (pss_one (ps_par (i := 2) (j := 3) rfl sc_holds_for.nd rfl rfl (by decide) rfl rfl (pa_cons (pv 5) (pa_cons (pv 4) pa_nil)) (by rfl))))))
      (pss_cons (ps_set (i := 9) sc_holds_for.nd rfl (.inl rfl) (pe_lst pa_nil))
      (pss_cons (ps_fix (ps_for PassesOwn.never rfl (kpi_kz K rfl (pv 2)) (pg_name (i := 6) sc_holds_for.nd rfl (.inl rfl)) (pss_one (ps_if (pt_cmpR (kx_eq K rfl hr.units) (pe_call (ok_comes (K := K) T) (hr.mono (by decide)) (by rfl) T.g_comes T.F_comes.kp T.b_comes .nil passN (pa_cons (pv 0) (pa_cons (pv 6) (pa_cons (pe_tup (pa_cons pe_bl (pa_cons pe_bl pa_nil))) (pa_cons (pv 3) pa_nil))))) pe_str (nomark _)) (pss_one (ps_expr (pe_bm PySem.F.plainAttrs_list PySem.F.slot_list_append PySem.F.type_list_append mt_append (pv 9) (pa_cons (pe_tup (pa_cons (pe_ix (kx_ix K rfl hr.units) (kpe_bget K rfl hr.units (pv 2) (pv 6) (fun _ _ => rfl)) pe_int (fun _ _ => rfl)) (pa_cons (pe_op op_addD (pe_ix (kx_ix K rfl hr.units) (kpe_bget K rfl hr.units (pv 2) (pv 6) (fun _ _ => rfl)) pe_int (fun _ _ => rfl)) (pe_lst (pa_cons (pe_tup (pa_cons pe_bl (pa_cons pe_bl pa_nil))) pa_nil))) pa_nil))) pa_nil)))) pss_nil))))
      (pss_one (ps_ret (pe_callB (kx_minA K rfl rfl hr.units) (by rfl) T.z_min (by decide +kernel) (pa_cons (pv 9) pa_nil)))))))))), ?_⟩
  exact (es_nox (es_seq (es_bdisp (ed_tup (ea_cons (ed_bl false) (ea_cons (ed_bl false) ea_nil))) (ed_tup (ea_cons (ed_int 0) (ea_cons (ed_lst ea_nil) ea_nil))))
      (es_seq (es_asg (ed_str ""))
      (es_seq (es_for (ei_str ((ed_var 1)).l) (ek_name 4) (es_seq es_bnew
      (es_seq (es_for (ei_tup ed_kt) (ek_name 6) (es_for (ei_tup ed_kt) (ek_name 7) (es_if (et_and (et_test ((ed_bin (ed_var 6))).l) (et_test ((ed_op o_eq ((ed_call (hn_cons (hn_cons (hn_cons (hn_cons hn_nil)))) (ea_cons (ed_var 0) (ea_cons (ed_var 6) (ea_cons (ed_var 7) (ea_cons (ed_var 3) ea_nil)))))).l ((ed_var 4)).l)).l)) (es_seq (es_asg (ed_tup (ea_cons (ed_op o_add ((ed_op o_ix ((ed_bget (ed_var 6))).l ((ed_int 0)).l)).l ((ed_call (hn_cons (hn_cons hn_nil)) (ea_cons (ed_var 6) (ea_cons (ed_var 7) ea_nil)))).l) (ea_cons (ed_op o_add ((ed_op o_ix ((ed_bget (ed_var 6))).l ((ed_int 1)).l)).l ((ed_lst (ea_cons (ed_var 7) ea_nil))).l) ea_nil))))
      (es_if (et_or (et_test ((ed_bnotin (ed_var 7))).l) (et_test ((ed_op o_ltA ((ed_var 8)).l ((ed_bget (ed_var 7))).l)).l)) (es_bput (ed_var 7) (ed_var 8)) es_nil)) es_nil)))
      (es_bmove (ed_var 4)))))
      (es_seq (es_asgF (ef_lst ea_nil))
      (es_seq (es_fix 2 (es_for (ei_keysB 2) (ek_name 6) (es_if (et_test ((ed_op o_eq ((ed_call (hn_cons (hn_cons (hn_cons (hn_cons hn_nil)))) (ea_cons (ed_var 0) (ea_cons (ed_var 6) (ea_cons (ed_tup (ea_cons (ed_bl false) (ea_cons (ed_bl false) ea_nil))) (ea_cons (ed_var 3) ea_nil)))))).l ((ed_str "")).l)).l) (es_app (ed_tup (ea_cons (ed_op o_ix ((ed_bget (ed_var 6))).l ((ed_int 0)).l) (ea_cons (ed_op o_add ((ed_op o_ix ((ed_bget (ed_var 6))).l ((ed_int 1)).l)).l ((ed_lst (ea_cons (ed_tup (ea_cons (ed_bl false) (ea_cons (ed_bl false) ea_nil))) ea_nil))).l) ea_nil)))) es_nil)))
      (es_ret ((ed_cb n_minA (eb_cons (el_var 9) eb_nil))).l)))))))

theorem sc_Keyer___init__ : FnScope ["self", "manner", "speed"] ["self", "manner", "speed"] (defScope s_Keyer___init__) := ⟨rfl, rfl, rfl, by decide +kernel, rfl, by decide +kernel, by decide +kernel⟩
theorem ok_Keyer___init__ (T : Txt K mg cl Tabl.C A D) : FnOk P w K mg base (L2N.CX P w) 4 A.Keyer___init__ D.Keyer___init__ ["self", "manner", "speed"] (spM K cl "Keyer" nm_Keyer 2 mt_Keyer___init__) := by
  refine def_okM (k := 3) T.F_Keyer___init__ sc_Keyer___init__ (by decide) fun p cdv A' outer s H E hr => ?_
  letI : Tabl := meI ‹Tabl› p
  exact ⟨_, (pss_cons (ps_expr (pe_call (ok_need_manner (K := K) T) (hr.mono (by decide)) (by rfl) T.g_need_manner T.F_need_manner.kp T.b_need_manner .nil (L2N.passes_call (L2N.takes_of rfl rfl rfl rfl) fun _ _ _ _ h => h) (pa_cons (pv 1) pa_nil)))
      (pss_cons (ps_expr (pe_call (ok_need_speed (K := K) T) (hr.mono (by decide)) (by rfl) T.g_need_speed T.F_need_speed.kp T.b_need_speed .nil (L2N.passes_call (L2N.takes_of rfl rfl rfl rfl) fun _ _ _ _ h => h) (pa_cons (pv 2) pa_nil)))
      (pss_cons (ps_fld (pv 0) (pv 1) rfl)
      (pss_cons (ps_fld (pv 0) (pv 2) rfl)
      (pss_cons (ps_fld (pv 0) pe_str rfl)
      (pss_cons (ps_fld (pv 0) pe_int rfl)
      (pss_cons (ps_fld (pv 0) pe_int rfl)
      (pss_cons (ps_fld (pv 0) pe_str rfl)
      (pss_cons (ps_fld (pv 0) pe_bl rfl)
      (pss_cons (ps_fld (pv 0) (pe_tup (pa_cons pe_bl (pa_cons pe_bl pa_nil))) rfl)
      (pss_cons (ps_fld (pv 0) (pe_lst pa_nil) rfl)
      (pss_one (ps_fld (pv 0) pe_int rfl))))))))))))), (es_seq (es_dropX (ed_call (hn_cons hn_nil) (ea_cons (ed_var 1) ea_nil)))
      (es_seq (es_dropX (ed_call (hn_cons hn_nil) (ea_cons (ed_var 2) ea_nil)))
      (es_seq (es_fldE T.f_Keyer_manner (ee_S (ed_var 1)))
      (es_seq (es_fldE T.f_Keyer_speed (ee_S (ed_var 2)))
      (es_seq (es_fldE T.f_Keyer_element (ee_S (ed_str "")))
      (es_seq (es_fldE T.f_Keyer_tone_left (ee_S (ed_int 0)))
      (es_seq (es_fldE T.f_Keyer_gap_left (ee_S (ed_int 0)))
      (es_seq (es_fldE T.f_Keyer_ahead (ee_S (ed_str "")))
      (es_seq (es_fldE T.f_Keyer_is_squeezed (ee_S (ed_bl false)))
      (es_seq (es_fldE T.f_Keyer_held (ee_S (ed_tup (ea_cons (ed_bl false) (ea_cons (ed_bl false) ea_nil)))))
      (es_seq (es_fldF T.f_Keyer_rows (ef_lst ea_nil))
      (es_fldE T.f_Keyer_clock (ee_S (ed_int 0))))))))))))))⟩

theorem sc_Keyer_step : FnScope ["self", "left", "right"] ["self", "left", "right"] (defScope s_Keyer_step) := ⟨rfl, rfl, rfl, by decide +kernel, rfl, by decide +kernel, by decide +kernel⟩
theorem ok_Keyer_step (T : Txt K mg cl Tabl.C A D) : FnOk P w K mg base (L2N.CX P w) 4 A.Keyer_step D.Keyer_step ["self", "left", "right"] (spM K cl "Keyer" nm_Keyer 2 mt_Keyer_step) := by
  refine def_okM (k := 3) T.F_Keyer_step sc_Keyer_step (by decide) fun p cdv A' outer s H E hr => ?_
  letI : Tabl := meI ‹Tabl› p
  exact ⟨_, (pss_cons (ps_if (PW.pt (pw_or (pt_not (pt_val (pe_callB (kx_isi K rfl) (by rfl) T.z_isinstance (by decide +kernel) (pa_cons (pv 1) (pa_cons (pe_bltn (v := .ty "bool") (by rfl) T.z_bool (by decide +kernel) rfl) pa_nil))))) (pw_or1 (pt_not (pt_val (pe_callB (kx_isi K rfl) (by rfl) T.z_isinstance (by decide +kernel) (pa_cons (pv 2) (pa_cons (pe_bltn (v := .ty "bool") (by rfl) T.z_bool (by decide +kernel) rfl) pa_nil)))))))) (pss_one (L2N.ps_raise rfl (L2N.takes_of rfl rfl rfl rfl) (L2N.pmk_own PySem.F.excBase_ValueError T.x_BadHand T.ge_BadHand T.k_BadHand (raises_own T.eb_BadHand T.t_BadHand) rfl))) pss_nil)
      (pss_cons (ps_if (pt_cmpR op_gt (pe_op op_addD (pe_fld (pv 0) rfl) (pe_fld (pv 0) rfl)) pe_int (nomark _)) (pss_one (ps_expr (pe_meth (pv 0) T.cl_Keyer T.m_Keyer_note (ok_Keyer_note (K := K) T) (hr.mono (by decide)) T.b_Keyer_note .nil (L2N.passes_call (L2N.takes_of rfl rfl rfl rfl) fun _ _ _ _ h => h) (pa_cons (pv 1) (pa_cons (pv 2) pa_nil))))) (pss_one (ps_expr (pe_meth (pv 0) T.cl_Keyer T.m_Keyer_begin (ok_Keyer_begin (K := K) T) (hr.mono (by decide)) T.b_Keyer_begin .nil (L2N.passes_call (L2N.takes_of rfl rfl rfl rfl) fun _ _ _ _ h => h) (pa_cons (pv 1) (pa_cons (pv 2) pa_nil))))))
      (pss_cons (ps_fld (pv 0) (pe_tup (pa_cons (pv 1) (pa_cons (pv 2) pa_nil))) rfl)
      (pss_cons (ps_fld (pv 0) (pe_op op_addD (pe_fld (pv 0) rfl) pe_int) rfl)
      (pss_cons (ps_if (pt_cmpR op_gt (pe_fld (pv 0) rfl) pe_int (nomark _)) (pss_cons (ps_fld (pv 0) (pe_op op_sub (pe_fld (pv 0) rfl) pe_int) rfl)
      (pss_one (ps_ret pe_bl))) pss_nil)
      (pss_cons (ps_fld (pv 0) (pe_callB (c_max2 rfl) (by rfl) T.z_max (by decide +kernel) (pa_cons pe_int (pa_cons (pe_op op_sub (pe_fld (pv 0) rfl) pe_int) pa_nil))) rfl)
      (pss_one (ps_ret pe_bl)))))))), (es_seq (es_if (et_or (et_not (et_B ((ed_isi kit_bool ((ed_var 1)).l)).l)) (et_not (et_B ((ed_isi kit_bool ((ed_var 2)).l)).l))) (es_raiseM "BadHand") es_nil)
      (es_seq (es_if (et_test ((ed_op o_gt ((ed_op o_add ((ed_fld T.f_Keyer_tone_left)).l ((ed_fld T.f_Keyer_gap_left)).l)).l ((ed_int 0)).l)).l) (es_dropE (ee_X (ex_meth (by decide +kernel) (hne_S (hn_cons (hn_cons hn_nil))) (eea_S (ea_cons (ed_var 1) (ea_cons (ed_var 2) ea_nil)))))) (es_dropE (ee_X (ex_meth (by decide +kernel) (hne_S (hn_cons (hn_cons hn_nil))) (eea_S (ea_cons (ed_var 1) (ea_cons (ed_var 2) ea_nil)))))))
      (es_seq (es_fldE T.f_Keyer_held (ee_S (ed_tup (ea_cons (ed_var 1) (ea_cons (ed_var 2) ea_nil)))))
      (es_seq (es_fldE T.f_Keyer_clock (ee_S (ed_op o_add ((ed_fld T.f_Keyer_clock)).l ((ed_int 1)).l)))
      (es_seq (es_if (et_test ((ed_op o_gt ((ed_fld T.f_Keyer_tone_left)).l ((ed_int 0)).l)).l) (es_seq (es_fldE T.f_Keyer_tone_left (ee_S (ed_op o_sub ((ed_fld T.f_Keyer_tone_left)).l ((ed_int 1)).l)))
      (es_retM (ee_S (ed_bl true)))) es_nil)
      (es_seq (es_fldE T.f_Keyer_gap_left (ee_S (ed_cb n_max2 (eb_cons ((ed_int 0)).l (eb_cons ((ed_op o_sub ((ed_fld T.f_Keyer_gap_left)).l ((ed_int 1)).l)).l eb_nil)))))
      (es_retM (ee_S (ed_bl false)))))))))⟩

theorem sc_look_at : FnScope ["manner", "speed", "hand"] ["manner", "speed", "hand"] (defScope s_look_at) := ⟨rfl, rfl, rfl, by decide +kernel, rfl, by decide +kernel, by decide +kernel⟩
theorem ok_look_at (T : Txt K mg cl Tabl.C A D) : FnOk P w K mg base (L2N.CX P w) 4 A.look_at D.look_at ["manner", "speed", "hand"] (spF K cl 3 dn_look_at) := by
  refine def_ok (k := 3) T.F_look_at sc_look_at fun cdv A' outer s H E hr => ⟨_, (pss_cons (ps_expr (pe_call (ok_need_manner (K := K) T) (hr.mono (by decide)) (by rfl) T.g_need_manner T.F_need_manner.kp T.b_need_manner .nil (L2N.passes_call (L2N.takes_of rfl rfl rfl rfl) fun _ _ _ _ h => h) (pa_cons (pv 0) pa_nil)))
      (pss_cons (ps_expr (pe_call (ok_need_speed (K := K) T) (hr.mono (by decide)) (by rfl) T.g_need_speed T.F_need_speed.kp T.b_need_speed .nil (L2N.passes_call (L2N.takes_of rfl rfl rfl rfl) fun _ _ _ _ h => h) (pa_cons (pv 1) pa_nil)))
      (pss_one (ps_expr (pe_call (ok_need_hand (K := K) T) (hr.mono (by decide)) (by rfl) T.g_need_hand T.F_need_hand.kp T.b_need_hand .nil (L2N.passes_call (L2N.takes_of rfl rfl rfl rfl) fun _ _ _ _ h => h) (pa_cons (pv 2) pa_nil)))))), ?_⟩
  exact (es_seq (es_drop ((ed_call (hn_cons hn_nil) (ea_cons (ed_var 0) ea_nil))).l)
      (es_seq (es_drop ((ed_call (hn_cons hn_nil) (ea_cons (ed_var 1) ea_nil))).l)
      (es_drop ((ed_call (hn_cons hn_nil) (ea_cons (ed_var 2) ea_nil))).l)))

theorem sc_fewest : FnScope ["manner", "code"] ["manner", "code"] (defScope s_fewest) := ⟨rfl, rfl, rfl, by decide +kernel, rfl, by decide +kernel, by decide +kernel⟩
theorem ok_fewest (T : Txt K mg cl Tabl.C A D) : FnOk P w K mg base (L2N.CX P w) 4 A.fewest D.fewest ["manner", "code"] (spF K cl 2 dn_fewest) := by
  refine def_ok (k := 3) T.F_fewest sc_fewest fun cdv A' outer s H E hr => ⟨_, (pss_cons (ps_expr (pe_call (ok_need_manner (K := K) T) (hr.mono (by decide)) (by rfl) T.g_need_manner T.F_need_manner.kp T.b_need_manner .nil (L2N.passes_call (L2N.takes_of rfl rfl rfl rfl) fun _ _ _ _ h => h) (pa_cons (pv 0) pa_nil)))
      (pss_cons (ps_expr (pe_call (ok_need_code (K := K) T) (hr.mono (by decide)) (by rfl) T.g_need_code T.F_need_code.kp T.b_need_code .nil (L2N.passes_call (L2N.takes_of rfl rfl rfl rfl) fun _ _ _ _ h => h) (pa_cons (pv 1) pa_nil)))
      (pss_one (ps_ret (pe_ix (kx_ix K rfl hr.units) (pe_call (ok_holds_for (K := K) T) (hr.mono (by decide)) (by rfl) T.g_holds_for T.F_holds_for.kp T.b_holds_for .nil (L2N.passes_call (L2N.takes_of rfl rfl rfl rfl) fun _ _ _ _ h => h) (pa_cons (pv 0) (pa_cons (pv 1) pa_nil))) pe_int (fun _ _ => rfl)))))), ?_⟩
  exact (es_seq (es_drop ((ed_call (hn_cons hn_nil) (ea_cons (ed_var 0) ea_nil))).l)
      (es_seq (es_drop ((ed_call (hn_cons hn_nil) (ea_cons (ed_var 1) ea_nil))).l)
      (es_ret ((ed_op o_ix ((ed_call (hn_cons (hn_cons hn_nil)) (ea_cons (ed_var 0) (ea_cons (ed_var 1) ea_nil)))).l ((ed_int 0)).l)).l)))

theorem sc_holds : FnScope ["manner", "code"] ["manner", "code"] (defScope s_holds) := ⟨rfl, rfl, rfl, by decide +kernel, rfl, by decide +kernel, by decide +kernel⟩
theorem ok_holds (T : Txt K mg cl Tabl.C A D) : FnOk P w K mg base (L2N.CX P w) 4 A.holds D.holds ["manner", "code"] (spF K cl 2 dn_holds) := by
  refine def_ok (k := 3) T.F_holds sc_holds fun cdv A' outer s H E hr => ⟨_, (pss_cons (ps_expr (pe_call (ok_need_manner (K := K) T) (hr.mono (by decide)) (by rfl) T.g_need_manner T.F_need_manner.kp T.b_need_manner .nil (L2N.passes_call (L2N.takes_of rfl rfl rfl rfl) fun _ _ _ _ h => h) (pa_cons (pv 0) pa_nil)))
      (pss_cons (ps_expr (pe_call (ok_need_code (K := K) T) (hr.mono (by decide)) (by rfl) T.g_need_code T.F_need_code.kp T.b_need_code .nil (L2N.passes_call (L2N.takes_of rfl rfl rfl rfl) fun _ _ _ _ h => h) (pa_cons (pv 1) pa_nil)))
      (pss_one (ps_ret (pe_ix (kx_ix K rfl hr.units) (pe_call (ok_holds_for (K := K) T) (hr.mono (by decide)) (by rfl) T.g_holds_for T.F_holds_for.kp T.b_holds_for .nil (L2N.passes_call (L2N.takes_of rfl rfl rfl rfl) fun _ _ _ _ h => h) (pa_cons (pv 0) (pa_cons (pv 1) pa_nil))) pe_int (fun _ _ => rfl)))))), ?_⟩
  exact (es_seq (es_drop ((ed_call (hn_cons hn_nil) (ea_cons (ed_var 0) ea_nil))).l)
      (es_seq (es_drop ((ed_call (hn_cons hn_nil) (ea_cons (ed_var 1) ea_nil))).l)
      (es_ret ((ed_op o_ix ((ed_call (hn_cons (hn_cons hn_nil)) (ea_cons (ed_var 0) (ea_cons (ed_var 1) ea_nil)))).l ((ed_int 1)).l)).l)))

theorem sc_spread : FnScope ["code", "some", "speed", "found", "element", "held", "one"] ["code", "some", "speed"] (defScope s_spread) := ⟨rfl, rfl, rfl, by decide +kernel, rfl, by decide +kernel, by decide +kernel⟩
theorem ok_spread (T : Txt K mg cl Tabl.C A D) : FnOk P w K mg base (L2N.CX P w) 4 A.spread D.spread ["code", "some", "speed"] (spF K cl 3 dn_spread) := by
  refine def_ok (k := 3) T.F_spread sc_spread fun cdv A' outer s H E hr => ⟨_, (pss_cons (ps_expr (pe_call (ok_need_code (K := K) T) (hr.mono (by decide)) (by rfl) T.g_need_code T.F_need_code.kp T.b_need_code .nil (L2N.passes_call (L2N.takes_of rfl rfl rfl rfl) fun _ _ _ _ h => h) (pa_cons (pv 0) pa_nil)))
      (pss_cons (ps_if (PW.pt (pw_or (pt_not (pt_val (pe_callB (kx_isi K rfl) (by rfl) T.z_isinstance (by decide +kernel) (pa_cons (pv 1) (pa_cons (pe_bltn (v := .ty "list") (by rfl) T.z_list (by decide +kernel) rfl) pa_nil))))) (pw_or (pt_cmpR (kx_ne K rfl hr.units) (pe_callB (kx_len K rfl) (by rfl) T.z_len (by decide +kernel) (pa_cons (pv 1) pa_nil)) (pe_op op_addD (pe_callB (kx_len K rfl) (by rfl) T.z_len (by decide +kernel) (pa_cons (pv 0) pa_nil)) pe_int) (nomark _)) (pw_or1 (pt_not (pt_val (pe_callB (kx_all K rfl rfl) (by rfl) T.z_all (by decide +kernel) (pa_cons (pe_lc (own := [("one", 6)]) rfl sc_spread.nd (kpi_list K rfl (pv 1)) (blkOk_by (N := ["code", "some", "speed", "found", "element", "held", "one"]) (sc := defScope s_spread) (own := [("one", 6)]) (by decide +kernel)) (fun _ _ _ _ _ => (pg_name (i := 6) sc_spread.nd rfl (.inl rfl))) (fun _ _ _ _ _ => pts_nil) (fun _ _ _ _ _ => (pe_call (ok_are_keys (K := K) T) (hr.mono (by decide)) (by rfl) T.g_are_keys T.F_are_keys.kp T.b_are_keys .nil passN (pa_cons (pv 6) pa_nil)))) pa_nil)))))))) (pss_one (L2N.ps_raise rfl (L2N.takes_of rfl rfl rfl rfl) (L2N.pmk_own PySem.F.excBase_ValueError T.x_BadHand T.ge_BadHand T.k_BadHand (raises_own T.eb_BadHand T.t_BadHand) rfl))) pss_nil)
      (pss_cons (ps_expr (pe_call (ok_need_speed (K := K) T) (hr.mono (by decide)) (by rfl) T.g_need_speed T.F_need_speed.kp T.b_need_speed .nil (L2N.passes_call (L2N.takes_of rfl rfl rfl rfl) fun _ _ _ _ h => h) (pa_cons (pv 2) pa_nil)))
      (pss_cons (ps_set (i := 3) sc_spread.nd rfl (.inl rfl) (pe_lst pa_nil))
      (pss_cons (ps_for (passes_of rfl) rfl (kpi_zipM K rfl (by rfl) T.z_zip (pa_cons (pv 0) (pa_cons (pv 1) pa_nil))) (kpg_tup (n := 2) K rfl rfl (pgs_cons (pg_name (i := 4) sc_spread.nd rfl (.inl rfl)) (pgs_cons (pg_name (i := 5) sc_spread.nd rfl (.inl rfl)) pgs_nil))) (pss_one (ps_expr (pe_bm PySem.F.plainAttrs_list PySem.F.slot_list_extend PySem.F.type_list_extend mt_extend (pv 3) (pa_cons (pe_op op_mulD (pe_lst (pa_cons (pv 5) pa_nil)) (pe_op op_addD (pe_call (ok_tone_long (K := K) T) (hr.mono (by decide)) (by rfl) T.g_tone_long T.F_tone_long.kp T.b_tone_long .nil (L2N.passes_call (L2N.takes_of rfl rfl rfl rfl) fun _ _ _ _ h => h) (pa_cons (pv 2) (pa_cons (pv 4) pa_nil))) (pe_call (ok_gap_long (K := K) T) (hr.mono (by decide)) (by rfl) T.g_gap_long T.F_gap_long.kp T.b_gap_long .nil (L2N.passes_call (L2N.takes_of rfl rfl rfl rfl) fun _ _ _ _ h => h) (pa_cons (pv 2) (pa_cons pe_int pa_nil))))) pa_nil)))))
      (pss_one (ps_ret (pe_op op_addD (pv 3) (pe_slice (kx_sl K rfl) (pv 1) (po_some (pe_un un_neg pe_int)) po_none))))))))), ?_⟩
  exact (es_seq (es_drop ((ed_call (hn_cons hn_nil) (ea_cons (ed_var 0) ea_nil))).l)
      (es_seq (es_if (et_or (et_not (et_B ((ed_isi kit_list ((ed_var 1)).l)).l)) (et_or (et_test ((ed_op o_ne ((ed_cb n_len (eb_cons ((ed_var 1)).l eb_nil))).l ((ed_op o_add ((ed_cb n_len (eb_cons ((ed_var 0)).l eb_nil))).l ((ed_int 1)).l)).l)).l) (et_not (et_B ((ed_cb n_all (eb_cons (((ef_lc (vs := [6]) (ei_list (ed_var 1)) (ek_name 6) et_yes (ed_call (hn_cons hn_nil) (ea_cons (ed_var 6) ea_nil)) (by decide))).s).l eb_nil))).l)))) (es_raise "BadHand") es_nil)
      (es_seq (es_drop ((ed_call (hn_cons hn_nil) (ea_cons (ed_var 2) ea_nil))).l)
      (es_seq (es_asgF (ef_lst ea_nil))
      (es_seq (es_for (ei_zipM (ea_cons (ed_var 0) (ea_cons (ed_var 1) ea_nil))) (ek_tup (ek_cons (ek_name 4) (ek_cons (ek_name 5) ek_nil))) (es_ext (ed_op o_mul ((ed_lst (ea_cons (ed_var 5) ea_nil))).l ((ed_op o_add ((ed_call (hn_cons (hn_cons hn_nil)) (ea_cons (ed_var 2) (ea_cons (ed_var 4) ea_nil)))).l ((ed_call (hn_cons (hn_cons hn_nil)) (ea_cons (ed_var 2) (ea_cons (ed_int 1) ea_nil)))).l)).l)))
      (es_ret ((ed_op o_add (el_var 3) ((ed_sl ((ed_var 1)).l (eo_some ((ed_un o_neg ((ed_int 1)).l)).l) eo_none)).l)).l))))))

theorem sc_keyed : FnScope ["manner", "speed", "hand", "keyer", "tones", "left", "right"] ["manner", "speed", "hand"] (defScope s_keyed) := ⟨rfl, rfl, rfl, by decide +kernel, rfl, by decide +kernel, by decide +kernel⟩
theorem ok_keyed (T : Txt K mg cl Tabl.C A D) : FnOk P w K mg base (L2N.CX P w) 6 A.keyed D.keyed ["manner", "speed", "hand"] (spK K cl "Keyer" nm_Keyer 3 dn_keyed) := by
  refine def_okK (k := 5) T.F_keyed sc_keyed fun cdv A' outer s H E hr => ⟨_, (pss_cons (ps_set (i := 3) sc_keyed.nd rfl (.inr rfl) (pe_make T.mk_Keyer (ok_Keyer___init__ (K := K) T) (hr.mono (by decide)) (by rfl) T.g_Keyer T.b_Keyer___init__ .nil (L2N.passes_call (L2N.takes_of rfl rfl rfl rfl) fun _ _ _ _ h => h) (pa_cons (pv 0) (pa_cons (pv 1) pa_nil))))
      (pss_cons (ps_setLc (i := 4) (own := [("left", 5), ("right", 6)]) rfl sc_keyed.nd rfl rfl (sw_true rfl rfl rfl (by decide +kernel)) (kpi_list K rfl (pv 2)) (blkOk_by (N := ["manner", "speed", "hand", "keyer", "tones", "left", "right"]) (sc := defScope s_keyed) (own := [("left", 5), ("right", 6)]) (by decide +kernel)) (fun _ _ _ _ _ => (kpg_tup (n := 2) K rfl rfl (pgs_cons (pg_name (i := 5) sc_keyed.nd rfl (.inl rfl)) (pgs_cons (pg_name (i := 6) sc_keyed.nd rfl (.inl rfl)) pgs_nil)))) (fun _ _ _ _ _ => pts_nil) (fun _ _ _ _ _ => (pe_meth (pv 3) T.cl_Keyer T.m_Keyer_step (ok_Keyer_step (K := K) T) (hr.mono (by decide)) T.b_Keyer_step .nil passN (pa_cons (pv 5) (pa_cons (pv 6) pa_nil)))))
      (pss_cons (ps_while (passes_of rfl) (pt_not (pt_val (pe_meth0 (pv 3) T.cl_Keyer T.m_Keyer_is_at_rest (ok_Keyer_is_at_rest (K := K) T) (hr.mono (by decide)) T.b_Keyer_is_at_rest .nil (L2N.passes_call (L2N.takes_of rfl rfl rfl rfl) fun _ _ _ _ h => h)))) (pss_one (ps_expr (pe_bm PySem.F.plainAttrs_list PySem.F.slot_list_append PySem.F.type_list_append mt_append (pv 4) (pa_cons (pe_meth (pv 3) T.cl_Keyer T.m_Keyer_step (ok_Keyer_step (K := K) T) (hr.mono (by decide)) T.b_Keyer_step .nil (L2N.passes_call (L2N.takes_of rfl rfl rfl rfl) fun _ _ _ _ h => h) (pa_cons pe_bl (pa_cons pe_bl pa_nil))) pa_nil)))))
      (pss_one (ps_ret (pe_tup (pa_cons (pv 3) (pa_cons (pv 4) pa_nil)))))))), ?_⟩
  exact (es_seq (es_make (hn_cons (hn_cons hn_nil)) (ea_cons (ed_var 0) (ea_cons (ed_var 1) ea_nil)))
      (es_seq (es_asgFE (efe_lc (vs := [5, 6]) (eie_S (ei_list (ed_var 2))) (ek_tup (ek_cons (ek_name 5) (ek_cons (ek_name 6) ek_nil))) (ee_X (ex_meth (by decide +kernel) (hne_S (hn_cons (hn_cons hn_nil))) (eea_S (ea_cons (ed_var 5) (ea_cons (ed_var 6) ea_nil))))) (by decide)))
      (es_seq (es_whileE 100000 (te_not (te_B (ee_X (ex_meth (by decide +kernel) (hne_S hn_nil) (eea_S ea_nil))))) (es_appE (ee_X (ex_meth (by decide +kernel) (hne_S (hn_cons (hn_cons hn_nil))) (eea_S (ea_cons (ed_bl false) (ea_cons (ed_bl false) ea_nil)))))))
      es_retP)))

theorem sc_played : FnScope ["manner", "speed", "hand"] ["manner", "speed", "hand"] (defScope s_played) := ⟨rfl, rfl, rfl, by decide +kernel, rfl, by decide +kernel, by decide +kernel⟩
theorem ok_played (T : Txt K mg cl Tabl.C A D) : FnOk P w K mg base (L2N.CX P w) 7 A.played D.played ["manner", "speed", "hand"] (spF K cl 3 dn_played) := by
  refine def_ok (k := 6) T.F_played sc_played fun cdv A' outer s H E hr => ⟨_, (pss_cons (ps_expr (pe_call (ok_look_at (K := K) T) (hr.mono (by decide)) (by rfl) T.g_look_at T.F_look_at.kp T.b_look_at .nil (L2N.passes_call (L2N.takes_of rfl rfl rfl rfl) fun _ _ _ _ h => h) (pa_cons (pv 0) (pa_cons (pv 1) (pa_cons (pv 2) pa_nil)))))
      (pss_one (ps_ret (pe_ix (kx_ix K rfl hr.units) (pe_call (ok_keyed (K := K) T) (hr.mono (by decide)) (by rfl) T.g_keyed T.F_keyed.kp T.b_keyed .nil (L2N.passes_call (L2N.takes_of rfl rfl rfl rfl) fun _ _ _ _ h => h) (pa_cons (pv 0) (pa_cons (pv 1) (pa_cons (pv 2) pa_nil)))) pe_int (fun _ _ => rfl))))), ?_⟩
  exact (es_seq (es_drop ((ed_call (hn_cons (hn_cons (hn_cons hn_nil))) (ea_cons (ed_var 0) (ea_cons (ed_var 1) (ea_cons (ed_var 2) ea_nil))))).l)
      (es_ret ((ed_K1 (hn_cons (hn_cons (hn_cons hn_nil))) (ea_cons (ed_var 0) (ea_cons (ed_var 1) (ea_cons (ed_var 2) ea_nil))))).l))

theorem sc_all_made : FnScope ["manner", "speed", "hand", "tick", "element"] ["manner", "speed", "hand"] (defScope s_all_made) := ⟨rfl, rfl, rfl, by decide +kernel, rfl, by decide +kernel, by decide +kernel⟩
theorem ok_all_made (T : Txt K mg cl Tabl.C A D) : FnOk P w K mg base (L2N.CX P w) 7 A.all_made D.all_made ["manner", "speed", "hand"] (spF K cl 3 dn_all_made) := by
  refine def_ok (k := 6) T.F_all_made sc_all_made fun cdv A' outer s H E hr => ⟨_, (pss_cons (ps_expr (pe_call (ok_look_at (K := K) T) (hr.mono (by decide)) (by rfl) T.g_look_at T.F_look_at.kp T.b_look_at .nil (L2N.passes_call (L2N.takes_of rfl rfl rfl rfl) fun _ _ _ _ h => h) (pa_cons (pv 0) (pa_cons (pv 1) (pa_cons (pv 2) pa_nil)))))
      (pss_one (ps_ret (kpe_join K rfl pe_str (pe_lc (own := [("tick", 3), ("element", 4)]) rfl sc_all_made.nd (kpi_list K rfl (pe_meth0 (pe_ix (kx_ix K rfl hr.units) (pe_call (ok_keyed (K := K) T) (hr.mono (by decide)) (by rfl) T.g_keyed T.F_keyed.kp T.b_keyed .nil (L2N.passes_call (L2N.takes_of rfl rfl rfl rfl) fun _ _ _ _ h => h) (pa_cons (pv 0) (pa_cons (pv 1) (pa_cons (pv 2) pa_nil)))) pe_int (fun _ _ => rfl)) T.cl_Keyer T.m_Keyer_made (ok_Keyer_made (K := K) T) (hr.mono (by decide)) T.b_Keyer_made .nil (L2N.passes_call (L2N.takes_of rfl rfl rfl rfl) fun _ _ _ _ h => h))) (blkOk_by (N := ["manner", "speed", "hand", "tick", "element"]) (sc := defScope s_all_made) (own := [("tick", 3), ("element", 4)]) (by decide +kernel)) (fun _ _ _ _ _ => (kpg_tup (n := 2) K rfl rfl (pgs_cons (pg_name (i := 3) sc_all_made.nd rfl (.inl rfl)) (pgs_cons (pg_name (i := 4) sc_all_made.nd rfl (.inl rfl)) pgs_nil)))) (fun _ _ _ _ _ => pts_nil) (fun _ _ _ _ _ => (pv 4))))))), ?_⟩
  exact (es_seq (es_drop ((ed_call (hn_cons (hn_cons (hn_cons hn_nil))) (ea_cons (ed_var 0) (ea_cons (ed_var 1) (ea_cons (ed_var 2) ea_nil))))).l)
      (es_ret ((ed_join ((ed_str "")).l (((ef_lc (vs := [3, 4]) (ei_list (ed_K0 (by decide +kernel) (hn_cons (hn_cons (hn_cons hn_nil))) (ea_cons (ed_var 0) (ea_cons (ed_var 1) (ea_cons (ed_var 2) ea_nil))))) (ek_tup (ek_cons (ek_name 3) (ek_cons (ek_name 4) ek_nil))) et_yes (ed_var 4) (by decide))).s).l)).l))

theorem sc_law : FnScope ["script", "k", "more", "j", "here", "code", "speed", "manner", "told", "hand", "before", "count", "keys", "size", "turns", "some", "bad", "element", "one", "other"] ["script"] (defScope s_law) := ⟨rfl, rfl, rfl, by decide +kernel, rfl, by decide +kernel, by decide +kernel⟩
theorem ok_law (T : Txt K mg cl Tabl.C A D) (B : Tbq base mg A) (hd : ∀ ns : List Int, ns.length ≤ 63 → runL 20 (sNx bd_law) ns = .ok (.bool true)) : FnOk P w K mg base (L2N.CX P w) 8 A.law D.law ["script"] (spLaw K) := by
  refine law_okC (k := 7) (cl := cl) (body := sNx bd_law) T.F_law sc_law (fun A2 outer s H E hr => ⟨_, (PSs.nox (pss_cons (ps_for PassesOwn.never rfl (pi_range1 (by rfl) T.z_range (pa_cons (pe_callB (c_max2 rfl) (by rfl) T.z_max (by decide +kernel) (pa_cons pe_int (pa_cons (pe_callB (kx_min K rfl rfl) (by rfl) T.z_min (by decide +kernel) (pa_cons pe_int (pa_cons (pe_callB (kx_len K rfl) (by rfl) T.z_len (by decide +kernel) (pa_cons (pv 0) pa_nil)) pa_nil))) pa_nil))) pa_nil)) (pg_name (i := 1) sc_law.nd rfl (.inl rfl)) (pss_cons (ps_set (i := 2) sc_law.nd rfl (.inl rfl) (pe_call (ok__law_drawn (K := K) T) (hr.mono (by decide)) (by rfl) T.g__law_drawn T.F__law_drawn.kp T.b__law_drawn .nil passN (pa_cons (pe_call (ok__law_cell (K := K) T) (hr.mono (by decide)) (by rfl) T.g__law_cell T.F__law_cell.kp T.b__law_cell .nil passN (pa_cons (pv 0) (pa_cons (pv 1) pa_nil))) (pa_cons (pv 1) pa_nil))))
      (pss_cons (ps_for PassesOwn.never rfl (pi_range1 (by rfl) T.z_range (pa_cons pe_int pa_nil)) (pg_name (i := 3) sc_law.nd rfl (.inl rfl)) (pss_cons (ps_set (i := 4) sc_law.nd rfl (.inl rfl) (pe_call (ok__law_drawn (K := K) T) (hr.mono (by decide)) (by rfl) T.g__law_drawn T.F__law_drawn.kp T.b__law_drawn .nil passN (pa_cons (pv 2) (pa_cons (pe_op op_addD pe_int (pv 3)) pa_nil))))
      (pss_cons (ps_asg (pe_tup (pa_cons (pe_call (ok__law_code (K := K) T) (hr.mono (by decide)) (by rfl) T.g__law_code T.F__law_code.kp T.b__law_code .nil passN (pa_cons (pe_op op_addD pe_int (pe_op op_mod (pe_op op_fdivW (pv 4) pe_int) pe_int)) pa_nil)) (pa_cons (pe_call (ok__law_speed (K := K) T) (hr.mono (by decide)) (by rfl) T.g__law_speed T.F__law_speed.kp T.b__law_speed .nil passN (pa_cons (pe_op op_fdivW (pv 4) pe_int) pa_nil)) pa_nil))) (kpg_tup (n := 2) K rfl rfl (pgs_cons (pg_name (i := 5) sc_law.nd rfl (.inr rfl)) (pgs_cons (pg_name (i := 6) sc_law.nd rfl (.inr rfl)) pgs_nil))))
      (pss_one (ps_for PassesOwn.never rfl (kpi_list K rfl (pe_lst (pa_cons pe_str (pa_cons pe_str (pa_cons pe_str pa_nil))))) (pg_name (i := 7) sc_law.nd rfl (.inl rfl)) (pss_cons (ps_set (i := 8) sc_law.nd rfl (.inr rfl) (pe_call (ok_holds (K := K) T) (hr.mono (by decide)) (by rfl) T.g_holds T.F_holds.kp T.b_holds .nil passN (pa_cons (pv 7) (pa_cons (pv 5) pa_nil))))
      (pss_cons (ps_set (i := 9) sc_law.nd rfl (.inl rfl) (pe_call (ok_spread (K := K) T) (hr.mono (by decide)) (by rfl) T.g_spread T.F_spread.kp T.b_spread .nil passN (pa_cons (pv 5) (pa_cons (pv 8) (pa_cons (pv 6) pa_nil)))))
      (pss_cons (ps_if (PW.pt (pw_or (pt_cmpR (kx_ne K rfl hr.units) (pe_call (ok_all_made (K := K) T) (hr.mono (by decide)) (by rfl) T.g_all_made T.F_all_made.kp T.b_all_made .nil passN (pa_cons (pv 7) (pa_cons (pv 6) (pa_cons (pv 9) pa_nil)))) (pv 5) (nomark _)) (pw_or (pt_cmpR (kx_ne K rfl hr.units) (pe_callB (kx_len K rfl) (by rfl) T.z_len (by decide +kernel) (pa_cons (pv 8) pa_nil)) (pe_op op_addD (pe_callB (kx_len K rfl) (by rfl) T.z_len (by decide +kernel) (pa_cons (pv 5) pa_nil)) pe_int) (nomark _)) (pw_or1 (pt_cmpR (kx_ne K rfl hr.units) (pe_ix (kx_ix K rfl hr.units) (pv 8) (pe_un un_neg pe_int) (fun _ _ => rfl)) (pe_tup (pa_cons pe_bl (pa_cons pe_bl pa_nil))) (nomark _)))))) (pss_one (ps_ret pe_bl)) pss_nil)
      (pss_cons (ps_asg (pe_tup (pa_cons (pe_tup (pa_cons pe_bl (pa_cons pe_bl pa_nil))) (pa_cons pe_int pa_nil))) (kpg_tup (n := 2) K rfl rfl (pgs_cons (pg_name (i := 10) sc_law.nd rfl (.inl rfl)) (pgs_cons (pg_name (i := 11) sc_law.nd rfl (.inl rfl)) pgs_nil))))
      (pss_cons (ps_for PassesOwn.never rfl (kpi_list K rfl (pv 9)) (pg_name (i := 12) sc_law.nd rfl (.inl rfl)) (pss_cons (ps_set (i := 11) sc_law.nd rfl (.inl rfl) (pe_op op_addD (pe_op op_addD (pv 11) (pe_callTy c_int (by rfl) T.z_int (by decide +kernel) (pa_cons (pe_and (pe_ix (kx_ix K rfl hr.units) (pv 12) pe_int (fun _ _ => rfl)) (pe_one (pe_not (pe_ix (kx_ix K rfl hr.units) (pv 10) pe_int (fun _ _ => rfl))))) pa_nil))) (pe_callTy c_int (by rfl) T.z_int (by decide +kernel) (pa_cons (pe_and (pe_ix (kx_ix K rfl hr.units) (pv 12) pe_int (fun _ _ => rfl)) (pe_one (pe_not (pe_ix (kx_ix K rfl hr.units) (pv 10) pe_int (fun _ _ => rfl))))) pa_nil))))
      (pss_one (ps_set (i := 10) sc_law.nd rfl (.inl rfl) (pv 12)))))
      (pss_cons (ps_if (PW.pt (pw_or (pt_cmpR (kx_ne K rfl hr.units) (pv 11) (pe_call (ok_fewest (K := K) T) (hr.mono (by decide)) (by rfl) T.g_fewest T.F_fewest.kp T.b_fewest .nil passN (pa_cons (pv 7) (pa_cons (pv 5) pa_nil))) (nomark _)) (pw_or1 (pt_not (pt_chain op_le op_le pe_int (pv 11) (pe_callB (kx_len K rfl) (by rfl) T.z_len (by decide +kernel) (pa_cons (pv 5) pa_nil))))))) (pss_one (ps_ret pe_bl)) pss_nil)
      (pss_cons (ps_set (i := 13) sc_law.nd rfl (.inl rfl) (pe_callB (kx_sum K rfl rfl) (by rfl) T.z_sum (by decide +kernel) (pa_cons (pe_lc (own := [("element", 17)]) rfl sc_law.nd (pi_str (pv 5)) (blkOk_by (N := ["script", "k", "more", "j", "here", "code", "speed", "manner", "told", "hand", "before", "count", "keys", "size", "turns", "some", "bad", "element", "one", "other"]) (sc := defScope s_law) (own := [("element", 17)]) (by decide +kernel)) (fun _ _ _ _ _ => (pg_name (i := 17) sc_law.nd rfl (.inl rfl))) (fun _ _ _ _ _ => pts_nil) (fun _ _ _ _ _ => (pe_op op_sub (pe_op op_addD (pe_call (ok__law_tone (K := K) T) (hr.mono (by decide)) (by rfl) T.g__law_tone T.F__law_tone.kp T.b__law_tone .nil passN (pa_cons (pv 6) (pa_cons (pv 17) pa_nil))) (pe_ix (kx_ix K rfl hr.units) (pv 6) pe_int (fun _ _ => rfl))) (pe_ix (kx_ix K rfl hr.units) (pv 6) pe_int (fun _ _ => rfl))))) pa_nil)))
      (pss_cons (ps_if (PW.pt (pw_or (pt_cmpR (kx_ne K rfl hr.units) (pe_callB (kx_len K rfl) (by rfl) T.z_len (by decide +kernel) (pa_cons (pv 9) pa_nil)) (pe_op op_addD (pv 13) pe_int) (nomark _)) (pw_or1 (pt_cmpR (kx_ne K rfl hr.units) (pe_callB (kx_len K rfl) (by rfl) T.z_len (by decide +kernel) (pa_cons (pe_call (ok_played (K := K) T) (hr.mono (by decide)) (by rfl) T.g_played T.F_played.kp T.b_played .nil passN (pa_cons (pv 7) (pa_cons (pv 6) (pa_cons (pv 9) pa_nil)))) pa_nil)) (pe_op op_addD (pv 13) pe_int) (nomark _))))) (pss_one (ps_ret pe_bl)) pss_nil)
      (pss_cons (ps_if (PW.pt (pw_and (pt_cmpR (kx_eq K rfl hr.units) (pe_lenT rfl (by rfl) T.z_len (by rfl) T.z_set (pv 5)) pe_int (nomark _)) (pw_and1 (pt_cmpR (kx_ne K rfl hr.units) (pv 11) pe_int (nomark _))))) (pss_one (ps_ret pe_bl)) pss_nil)
      (pss_cons (ps_setLc (i := 14) (own := [("one", 18), ("other", 19)]) rfl sc_law.nd rfl rfl (sw_true rfl rfl rfl (by decide +kernel)) (pi_zipS (by rfl) T.z_zip (pa_cons (pe_slice (kx_sl K rfl) (pv 5) po_none (po_some (pe_un un_neg pe_int))) (pa_cons (pe_slice (kx_sl K rfl) (pv 5) (po_some pe_int) po_none) pa_nil))) (blkOk_by (N := ["script", "k", "more", "j", "here", "code", "speed", "manner", "told", "hand", "before", "count", "keys", "size", "turns", "some", "bad", "element", "one", "other"]) (sc := defScope s_law) (own := [("one", 18), ("other", 19)]) (by decide +kernel)) (fun _ _ _ _ _ => (kpg_tup (n := 2) K rfl rfl (pgs_cons (pg_name (i := 18) sc_law.nd rfl (.inl rfl)) (pgs_cons (pg_name (i := 19) sc_law.nd rfl (.inl rfl)) pgs_nil)))) (fun _ _ _ _ _ => (pts_one (pt_cmpR (kx_eq K rfl hr.units) (pv 18) (pv 19) (nomark _)))) (fun _ _ _ _ _ => pe_int))
      (pss_one (ps_if (PW.pt (pw_and (pt_cmpR (kx_ne K rfl hr.units) (pv 7) pe_str (nomark _)) (pw_and (pt_cmpR (kx_eq K rfl hr.units) (pv 14) (pe_lst pa_nil) (nomark _)) (pw_and1 (pt_cmpR op_gt (pv 11) pe_int (nomark _)))))) (pss_one (ps_ret pe_bl)) pss_nil)))))))))))))))))
      (pss_cons (ps_set (i := 15) sc_law.nd rfl (.inl rfl) (pe_lst (pa_cons (pe_told (k := 5) (tld T) (wrd T) (by rfl) B.t_law rfl B.m_law B.u_law (hr.mono (by decide)) (LamX.lamS_by (sc := defScope s_law) (by decide +kernel)) rfl (fun _ _ _ _ _ => rfl) (fun _ _ _ _ _ _ _ hr2 => (pe_call (ok_spread (K := K) T) (hr2.mono (by decide)) (by rfl) T.g_spread T.F_spread.kp T.b_spread .nil (L2N.passes_call (L2N.takes_of rfl rfl rfl rfl) fun _ _ _ _ h => h) (pa_cons pe_str (pa_cons pe_non (pa_cons pe_non pa_nil)))))) pa_nil)))
      (pss_cons (ps_set (i := 13) sc_law.nd rfl (.inl rfl) (pe_op op_addD (pe_callB (kx_len K rfl) (by rfl) T.z_len (by decide +kernel) (pa_cons (pv 5) pa_nil)) pe_int))
      (pss_cons (ps_for PassesOwn.never rfl (kpi_list K rfl (pe_lst (pa_cons pe_non (pa_cons (pe_slice (kx_sl K rfl) (pv 8) po_none (po_some (pe_un un_neg pe_int))) (pa_cons (pe_op op_addD (pv 8) (pe_lst (pa_cons (pe_tup (pa_cons pe_bl (pa_cons pe_bl pa_nil))) pa_nil))) (pa_cons (pe_op op_mulD (pe_lst (pa_cons (pe_tup (pa_cons pe_int (pa_cons pe_int pa_nil))) pa_nil)) (pv 13)) (pa_cons (pe_op op_mulD (pe_lst (pa_cons pe_non pa_nil)) (pv 13)) (pa_cons (pe_callTy (kx_tuple K rfl) (by rfl) T.z_tuple (by decide +kernel) (pa_cons (pv 8) pa_nil)) pa_nil)))))))) (pg_name (i := 16) sc_law.nd rfl (.inr rfl)) (pss_one (ps_expr (pe_bm PySem.F.plainAttrs_list PySem.F.slot_list_append PySem.F.type_list_append mt_append (pv 15) (pa_cons (pe_told (k := 5) (tld T) (wrd T) (by rfl) B.t_law rfl B.m_law B.u_law (hr.mono (by decide)) (LamX.lamS_by (sc := defScope s_law) (by decide +kernel)) rfl (fun _ _ _ _ _ => rfl) (fun _ _ _ _ _ _ _ hr2 => (pe_call (ok_spread (K := K) T) (hr2.mono (by decide)) (by rfl) T.g_spread T.F_spread.kp T.b_spread .nil (L2N.passes_call (L2N.takes_of rfl rfl rfl rfl) fun _ _ _ _ h => h) (pa_cons (pv 5) (pa_cons (pv 16) (pa_cons pe_non pa_nil)))))) pa_nil)))))
      (pss_cons (ps_expr (pe_bm PySem.F.plainAttrs_list PySem.F.slot_list_append PySem.F.type_list_append mt_append (pv 15) (pa_cons (pe_told (k := 5) (tld T) (wrd T) (by rfl) B.t_law rfl B.m_law B.u_law (hr.mono (by decide)) (LamX.lamS_by (sc := defScope s_law) (by decide +kernel)) rfl (fun _ _ _ _ _ => rfl) (fun _ _ _ _ _ _ _ hr2 => (pe_call (ok_spread (K := K) T) (hr2.mono (by decide)) (by rfl) T.g_spread T.F_spread.kp T.b_spread .nil (L2N.passes_call (L2N.takes_of rfl rfl rfl rfl) fun _ _ _ _ h => h) (pa_cons (pv 5) (pa_cons (pv 8) (pa_cons pe_non pa_nil)))))) pa_nil)))
      (pss_one (ps_if (pt_cmpR (kx_ne K rfl hr.units) (pv 15) (pe_op op_addD (pe_op op_addD (pe_lst (pa_cons pe_str pa_nil)) (pe_op op_mulD (pe_lst (pa_cons pe_str pa_nil)) pe_int)) (pe_lst (pa_cons pe_str pa_nil))) (nomark _)) (pss_one (ps_ret pe_bl)) pss_nil)))))))))
      (pss_one (ps_ret pe_bl)))), ?_⟩) (by decide) hd
  exact (es_nox (es_seq (es_for (ei_rng1 (eb_cons ((ed_cb n_max2 (eb_cons ((ed_int 1)).l (eb_cons ((ed_cb n_min (eb_cons ((ed_int 3)).l (eb_cons ((ed_lenR 0)).l eb_nil)))).l eb_nil)))).l eb_nil)) (ek_name 1) (es_seq (es_asg (ed_call (hn_cons (hn_cons hn_nil)) (ea_cons (ed_cell 0 ((ed_var 1)).l) (ea_cons (ed_var 1) ea_nil))))
      (es_seq (es_for (ei_rng1 (eb_cons ((ed_int 4)).l eb_nil)) (ek_name 3) (es_seq (es_asg (ed_call (hn_cons (hn_cons hn_nil)) (ea_cons (ed_var 2) (ea_cons (ed_op o_add ((ed_int 10)).l ((ed_var 3)).l) ea_nil))))
      (es_seq (es_asgG (ed_tup (ea_cons (ed_call (hn_cons hn_nil) (ea_cons (ed_op o_add ((ed_int 2)).l ((ed_op o_mod ((ed_op o_fdiv ((ed_var 4)).l ((ed_int 8)).l)).l ((ed_int 126)).l)).l) ea_nil)) (ea_cons (ed_call (hn_cons hn_nil) (ea_cons (ed_op o_fdiv ((ed_var 4)).l ((ed_int 1024)).l) ea_nil)) ea_nil))) (ek_tup (ek_cons (ek_name 5) (ek_cons (ek_name 6) ek_nil))))
      (es_for (ei_list (ed_lst (ea_cons (ed_str "plain") (ea_cons (ed_str "a") (ea_cons (ed_str "b") ea_nil))))) (ek_name 7) (es_seq (es_asg (ed_call (hn_cons (hn_cons hn_nil)) (ea_cons (ed_var 7) (ea_cons (ed_var 5) ea_nil))))
      (es_seq (es_asg (ed_call (hn_cons (hn_cons (hn_cons hn_nil))) (ea_cons (ed_var 5) (ea_cons (ed_var 8) (ea_cons (ed_var 6) ea_nil)))))
      (es_seq (es_if (et_or (et_test ((ed_op o_ne ((ed_call (hn_cons (hn_cons (hn_cons hn_nil))) (ea_cons (ed_var 7) (ea_cons (ed_var 6) (ea_cons (ed_var 9) ea_nil))))).l ((ed_var 5)).l)).l) (et_or (et_test ((ed_op o_ne ((ed_cb n_len (eb_cons ((ed_var 8)).l eb_nil))).l ((ed_op o_add ((ed_cb n_len (eb_cons ((ed_var 5)).l eb_nil))).l ((ed_int 1)).l)).l)).l) (et_test ((ed_op o_ne ((ed_op o_ix ((ed_var 8)).l ((ed_un o_neg ((ed_int 1)).l)).l)).l ((ed_tup (ea_cons (ed_bl false) (ea_cons (ed_bl false) ea_nil)))).l)).l))) (es_ret ((ed_bl false)).l) es_nil)
      (es_seq (es_asgG (ed_tup (ea_cons (ed_tup (ea_cons (ed_bl false) (ea_cons (ed_bl false) ea_nil))) (ea_cons (ed_int 0) ea_nil))) (ek_tup (ek_cons (ek_name 10) (ek_cons (ek_name 11) ek_nil))))
      (es_seq (es_for (ei_list (ed_var 9)) (ek_name 12) (es_seq (es_asg (ed_op o_add ((ed_op o_add ((ed_var 11)).l ((ed_cb n_int (eb_cons ((ed_andV ((ed_op o_ix ((ed_var 12)).l ((ed_int 0)).l)).l (ed_notV ((ed_op o_ix ((ed_var 10)).l ((ed_int 0)).l)).l))).l eb_nil))).l)).l ((ed_cb n_int (eb_cons ((ed_andV ((ed_op o_ix ((ed_var 12)).l ((ed_int 1)).l)).l (ed_notV ((ed_op o_ix ((ed_var 10)).l ((ed_int 1)).l)).l))).l eb_nil))).l))
      (es_asg (ed_var 12))))
      (es_seq (es_if (et_or (et_test ((ed_op o_ne ((ed_var 11)).l ((ed_call (hn_cons (hn_cons hn_nil)) (ea_cons (ed_var 7) (ea_cons (ed_var 5) ea_nil)))).l)).l) (et_not (et_test ((ed_chain o_le o_le ((ed_int 1)).l ((ed_var 11)).l ((ed_cb n_len (eb_cons ((ed_var 5)).l eb_nil))).l)).l))) (es_ret ((ed_bl false)).l) es_nil)
      (es_seq (es_asg (ed_cb n_sum (eb_cons (((ef_lc (vs := [17]) (ei_str ((ed_var 5)).l) (ek_name 17) et_yes (ed_op o_sub ((ed_op o_add ((ed_call (hn_cons (hn_cons hn_nil)) (ea_cons (ed_var 6) (ea_cons (ed_var 17) ea_nil)))).l ((ed_op o_ix ((ed_var 6)).l ((ed_int 0)).l)).l)).l ((ed_op o_ix ((ed_var 6)).l ((ed_int 1)).l)).l) (by decide))).s).l eb_nil)))
      (es_seq (es_if (et_or (et_test ((ed_op o_ne ((ed_cb n_len (eb_cons ((ed_var 9)).l eb_nil))).l ((ed_op o_add ((ed_var 13)).l ((ed_int 1)).l)).l)).l) (et_test ((ed_op o_ne ((ed_cb n_len (eb_cons ((ed_call (hn_cons (hn_cons (hn_cons hn_nil))) (ea_cons (ed_var 7) (ea_cons (ed_var 6) (ea_cons (ed_var 9) ea_nil))))).l eb_nil))).l ((ed_op o_add ((ed_var 13)).l ((ed_int 1)).l)).l)).l)) (es_ret ((ed_bl false)).l) es_nil)
      (es_seq (es_if (et_and (et_test ((ed_op o_eq ((ed_lenT ((ed_var 5)).l)).l ((ed_int 1)).l)).l) (et_test ((ed_op o_ne ((ed_var 11)).l ((ed_int 1)).l)).l)) (es_ret ((ed_bl false)).l) es_nil)
      (es_seq (es_asg ((ef_lc (vs := [18, 19]) (ei_zipS (eb_cons ((ed_sl ((ed_var 5)).l eo_none (eo_some ((ed_un o_neg ((ed_int 1)).l)).l))).l (eb_cons ((ed_sl ((ed_var 5)).l (eo_some ((ed_int 1)).l) eo_none)).l eb_nil))) (ek_tup (ek_cons (ek_name 18) (ek_cons (ek_name 19) ek_nil))) (et_test ((ed_op o_eq ((ed_var 18)).l ((ed_var 19)).l)).l) (ed_int 1) (by decide))).s)
      (es_if (et_and (et_test ((ed_op o_ne ((ed_var 7)).l ((ed_str "plain")).l)).l) (et_and (et_test ((ed_op o_eq ((ed_var 14)).l ((ed_lst ea_nil)).l)).l) (et_test ((ed_op o_gt ((ed_var 11)).l ((ed_int 2)).l)).l))) (es_ret ((ed_bl false)).l) es_nil)))))))))))))))
      (es_seq (es_asgF (ef_lst (ea_cons (ed_told fun _ => (ed_call (hn_cons (hn_cons (hn_cons hn_nil))) (ea_cons (ed_str "") (ea_cons ed_non (ea_cons ed_non ea_nil))))) ea_nil)))
      (es_seq (es_asg (ed_op o_add ((ed_cb n_len (eb_cons ((ed_var 5)).l eb_nil))).l ((ed_int 1)).l))
      (es_seq (es_for (ei_list (ed_lst (ea_cons ed_non (ea_cons (ed_sl ((ed_var 8)).l eo_none (eo_some ((ed_un o_neg ((ed_int 1)).l)).l)) (ea_cons (ed_op o_add ((ed_var 8)).l ((ed_lst (ea_cons (ed_tup (ea_cons (ed_bl false) (ea_cons (ed_bl false) ea_nil))) ea_nil))).l) (ea_cons (ed_op o_mul ((ed_lst (ea_cons (ed_tup (ea_cons (ed_int 1) (ea_cons (ed_int 0) ea_nil))) ea_nil))).l ((ed_var 13)).l) (ea_cons (ed_op o_mul ((ed_lst (ea_cons ed_non ea_nil))).l ((ed_var 13)).l) (ea_cons (ed_cb n_tuple (eb_cons ((ed_var 8)).l eb_nil)) ea_nil)))))))) (ek_name 16) (es_app (ed_told fun _ => (ed_call (hn_cons (hn_cons (hn_cons hn_nil))) (ea_cons (ed_var 5) (ea_cons (ed_var 16) (ea_cons ed_non ea_nil)))))))
      (es_seq (es_app (ed_told fun _ => (ed_call (hn_cons (hn_cons (hn_cons hn_nil))) (ea_cons (ed_var 5) (ea_cons (ed_var 8) (ea_cons ed_non ea_nil))))))
      (es_if (et_test ((ed_op o_ne (el_var 15) ((ed_op o_add ((ed_op o_add ((ed_lst (ea_cons (ed_str "BadCode") ea_nil))).l ((ed_op o_mul ((ed_lst (ea_cons (ed_str "BadHand") ea_nil))).l ((ed_int 6)).l)).l)).l ((ed_lst (ea_cons (ed_str "BadNumber") ea_nil))).l)).l)).l) (es_ret ((ed_bl false)).l) es_nil))))))))
      (es_ret ((ed_bl true)).l)))

end
end Tk
namespace Tk
open PySem L2 Dn
variable [Tabl]
/-! ### the draws -/
def M1 : Int := 340282366920938463463374607431768211507
def M2 : Int := 340282366920938463463374607431768211297
def A64 : Int := 18446744073709551557
def drw1 (c k : Int) : Int := (c * 6364136223846793005 + (k + 1) * 1442695040888963407) % M1
def drw2 (c k : Int) : Int := drw1 c k * drw1 c k % M2
def drawn (c k : Int) : Int := ((drw2 c k % A64 + 1) * (drw2 c k / A64 + 1) * drw2 c k) % M1
theorem drawn_nn (c k : Int) : 0 ≤ drawn c k := Int.emod_nonneg _ (by decide)
theorem nab_mul {a b : Int} {p r : Nat} (ha : a.natAbs < 2 ^ p) (hb : b.natAbs < 2 ^ r) : (a * b).natAbs < 2 ^ (p + r) := by
  rw [Int.natAbs_mul, Nat.pow_add]
  exact Nat.mul_lt_mul'' ha hb
theorem nab_of {a : Int} {p : Nat} (h0 : 0 ≤ a) (h1 : a < ((2 ^ p : Nat) : Int)) : a.natAbs < 2 ^ p := by omega
theorem pow_up {a p r : Nat} (h : a < 2 ^ p) (hp : p ≤ r) : a < 2 ^ r := Nat.lt_of_lt_of_le h (Nat.pow_le_pow_right (by decide) hp)
theorem mod_nab (a : Int) {m : Int} (p : Nat) (hm : 0 < m) (hp : m ≤ ((2 ^ p : Nat) : Int)) : (a % m).natAbs < 2 ^ p := by
  have h0 := Int.emod_nonneg a (show m ≠ 0 by omega)
  have h1 := Int.emod_lt_of_pos a hm
  exact nab_of h0 (by omega)
theorem drawn_eq (c k : Int) : dn__law_drawn [.int c, .int k] = .ok (.int (drawn c k)) := by
  have e1 : mulD (.int c) (.int 6364136223846793005) = .ok (.int (c * 6364136223846793005)) := mulD_r _ _ ⟨by decide, by decide⟩
  have e2 : mulD (.int (k + 1)) (.int 1442695040888963407) = .ok (.int ((k + 1) * 1442695040888963407)) := mulD_r _ _ ⟨by decide, by decide⟩
  have b1 : (drw1 c k).natAbs < 2 ^ 129 := mod_nab _ 129 (by decide) (by decide)
  have b2 : (drw2 c k).natAbs < 2 ^ 129 := mod_nab _ 129 (by decide) (by decide)
  have n2 : 0 ≤ drw2 c k := Int.emod_nonneg _ (by decide)
  have e3 : mulD (.int (drw1 c k)) (.int (drw1 c k)) = .ok (.int (drw1 c k * drw1 c k)) := mulD_w _ _ ⟨pow_up b1 (by decide), pow_up b1 (by decide)⟩
  have b3 : (drw2 c k % A64 + 1).natAbs < 2 ^ 65 := by
    have h0 := Int.emod_nonneg (drw2 c k) (show A64 ≠ 0 by decide)
    have h1 := Int.emod_lt_of_pos (drw2 c k) (show (0 : Int) < A64 by decide)
    have h2 : A64 < ((2 ^ 64 : Nat) : Int) := by decide
    exact nab_of (by omega) (by omega)
  have b4 : (drw2 c k / A64 + 1).natAbs < 2 ^ 130 := by
    have h0 : 0 ≤ drw2 c k / A64 := Int.ediv_nonneg n2 (by decide)
    have h1 : drw2 c k / A64 ≤ drw2 c k := Int.ediv_le_self _ n2
    have h2 : drw2 c k < ((2 ^ 129 : Nat) : Int) := by omega
    exact nab_of (by omega) (by omega)
  have e4 : mulD (.int (drw2 c k % A64 + 1)) (.int (drw2 c k / A64 + 1)) = .ok (.int ((drw2 c k % A64 + 1) * (drw2 c k / A64 + 1))) := mulD_w _ _ ⟨pow_up b3 (by decide), pow_up b4 (by decide)⟩
  have e5 : mulD (.int ((drw2 c k % A64 + 1) * (drw2 c k / A64 + 1))) (.int (drw2 c k)) = .ok (.int ((drw2 c k % A64 + 1) * (drw2 c k / A64 + 1) * drw2 c k)) := mulD_w _ _ ⟨pow_up (nab_mul b3 b4) (by decide), pow_up b2 (by decide)⟩
  have m1 : ∀ a : Int, modD (.int a) (.int 340282366920938463463374607431768211507) = .ok (.int (a % M1)) := fun a => modD_int _ _ (by decide)
  have m2 : ∀ a : Int, modD (.int a) (.int 340282366920938463463374607431768211297) = .ok (.int (a % M2)) := fun a => modD_int _ _ (by decide)
  have m3 : ∀ a : Int, modD (.int a) (.int 18446744073709551557) = .ok (.int (a % A64)) := fun a => modD_int _ _ (by decide)
  have m4 : ∀ a : Int, fdivD (.int a) (.int 18446744073709551557) = .ok (.int (a / A64)) := fun a => fdivD_int _ _ (by decide)
  unfold dn__law_drawn runB sNx bd__law_drawn
  simp only [List.map_cons, List.map_nil, List.length_cons, List.length_nil, Nat.reduceSub, Nat.reduceAdd, List.replicate_succ, List.replicate_zero, List.cons_append, List.nil_append, sSeq_ap, sAsg_ap, d2_ap, dVar_ap, dC_ap, List.getElem?_cons_zero, List.getElem?_cons_succ, R.bind_ok, e1, e2, addD_int, m1, List.set_cons_succ, List.set_cons_zero]
  show (noXm (R.bind (R.bind (R.bind (mulD (.int (drw1 c k)) (.int (drw1 c k))) _) _) _).noexc).bind _ = _
  rw [e3]
  simp only [R.bind_ok, m2, sSeq_ap, sAsg_ap, d2_ap, dVar_ap, dC_ap, List.getElem?_cons_zero, List.getElem?_cons_succ, List.set_cons_succ, List.set_cons_zero, m3, m4, addD_int]
  show (noXm (R.bind (R.bind (R.bind (mulD (.int (drw2 c k % A64 + 1)) (.int (drw2 c k / A64 + 1))) _) _) _).noexc).bind _ = _
  rw [e4]
  simp only [R.bind_ok]
  show (noXm (R.bind (R.bind (mulD (.int ((drw2 c k % A64 + 1) * (drw2 c k / A64 + 1))) (.int (drw2 c k))) _) _).noexc).bind _ = _
  rw [e5]
  simp only [R.bind_ok, sRet_ap, d2_ap, dVar_ap, dC_ap, List.getElem?_cons_zero, List.getElem?_cons_succ, m1, R.noexc_ok, noXm_rt, noXm_nx]
  rfl
end Tk

namespace Tk
open PySem L2 Dn
variable [Tabl]
/-- the sign as a text -/
abbrev sg (c : Nat) : PD := .str ⟨#[c]⟩
theorem signs_st (l : List Nat) : signs (.str (st l)) = .ok (l.map sg) := rfl
def elB (c : Nat) : Bool := decide (c ∈ [46, 45])
def codeB (l : List Nat) : Bool := decide (1 ≤ l.length) && decide (l.length ≤ 6) && l.all elB
theorem str_dotdash : (".-" : Str).cps.toList = [46, 45] := by decide +kernel
theorem asBools_of {α : Type} (f : α → Bool) (l : List α) : asBools (l.map fun a => .bool (f a)) = some (l.map f) := by
  rw [← asBools_map (l.map f), List.map_map]
  rfl
theorem allD_of {α : Type} (f : α → Bool) (l : List α) : allD [.list (l.map fun a => .bool (f a))] = .ok (.bool (l.all f)) := by
  show (match asBools (l.map fun a => PyData.bool (f a)) with
    | some bs => R.ok (PyData.bool (bs.all id))
    | none => R.stuck) = _
  rw [asBools_of]
  simp [List.all_map]
theorem inD_sign (c : Nat) (z : Str) : inD false (sg c) (.str z) = .ok (.bool (decide (c ∈ z.cps.toList))) := rfl
end Tk

namespace Tk
open PySem L2 Dn
variable [Tabl]
theorem ce_is_code_ap (d : PD) (c : Nat) : ce_is_code_1 [.sh d, .sh (sg c)] = .ok (.bool (elB c)) := by
  unfold ce_is_code_1 elB
  simp only [d2_ap, dVar_ap, dC_ap, R.bind_ok, List.getElem?_cons_succ, List.getElem?_cons_zero]
  rw [inD_sign, str_dotdash]
theorem is_code_st (l : List Nat) (hl : l.length ≤ szN) : dn_is_code [.str (st l)] = .ok (.bool (codeB l)) := by
  have hlc : lcL (gN 1) dYes ce_is_code_1 [.sh (.str (st l)), .no] (l.map sg) = .ok (l.map fun c => .bool (elB c)) :=
    lcL_map sg (fun c => .bool (elB c)) (fun c => ⟨_, rfl, ce_is_code_ap _ c⟩) l
  unfold dn_is_code runB bd_is_code
  simp [isStrD, lenD_str (st l) (by rw [st_len]; exact hl), st_len, cv_MOST_CODE, dLc, signs_st, free, isOwn, wipeE, hlc, chk_ok _ (show (l.map fun c => PyData.bool (elB c)).length ≤ szN by simpa using hl), allD_of]
  unfold codeB
  by_cases h1 : 1 ≤ l.length
  · by_cases h2 : l.length ≤ 6
    · simp [show (1 : Int) ≤ (l.length : Int) by omega, show (l.length : Int) ≤ 6 by omega, h1, h2]
    · simp [show (1 : Int) ≤ (l.length : Int) by omega, show ¬ (l.length : Int) ≤ 6 by omega, h1, h2]
  · simp [show ¬ (1 : Int) ≤ (l.length : Int) by omega, h1]
end Tk

namespace Tk
open PySem L2 Dn
variable [Tabl]
/-! ### the law's codes -/
def el (k : Nat) : Nat := if k = 0 then 46 else 45
def codeF : Nat → Nat → List Nat → List Nat
  | 0, _, acc => acc
  | f + 1, n, acc => if n ≤ 1 then acc else codeF f (n / 2) (el (n % 2) :: acc)
def codeOf (n : Nat) : List Nat := codeF 8 n []
theorem codeF_one : ∀ (f n : Nat) (acc : List Nat), n ≤ 1 → codeF f n acc = acc
  | 0, _, _, _ => rfl
  | f + 1, n, acc, h => if_pos h
theorem ix_dotdash (n : Nat) : ixD (.str ".-") (.int ((n : Int) % 2)) = .ok (.str (st [el (n % 2)])) := by
  have h : (n : Int) % 2 = 0 ∧ n % 2 = 0 ∨ (n : Int) % 2 = 1 ∧ n % 2 = 1 := by omega
  rcases h with ⟨h, h'⟩ | ⟨h, h'⟩ <;> rw [h, h'] <;> rfl
theorem code_loop : ∀ (f n : Nat) (acc : List Nat) (m : Nat), n < 2 ^ f → acc.length + f ≤ 1000 → f < m → ∃ k : Int, loopW lt__law_code_2 lp__law_code_1 m [.sh (.int (n : Int)), .sh (.str (st acc))] = .ok (.nx [.sh (.int k), .sh (.str (st (codeF f n acc)))])
  | f, n, acc, 0, _, _, hm => absurd hm (Nat.not_lt_zero _)
  | f, n, acc, m + 1, hn, ha, hm => by
    by_cases h1 : n ≤ 1
    · refine ⟨n, ?_⟩
      rw [codeF_one f n acc h1]
      unfold loopW lt__law_code_2
      simp [show ¬ (1 : Int) < (n : Int) by omega]
    · cases f with
      | zero => omega
      | succ f =>
        have hn2 : n / 2 < 2 ^ f := by rw [Nat.pow_succ] at hn; omega
        obtain ⟨k, ih⟩ := code_loop f (n / 2) (el (n % 2) :: acc) m hn2 (by simp; omega) (by omega)
        refine ⟨k, ?_⟩
        unfold loopW
        have e1 : lt__law_code_2 [.sh (.int (n : Int)), .sh (.str (st acc))] = .ok true := by
          unfold lt__law_code_2
          simp [show (1 : Int) < (n : Int) by omega]
        have e2 : lp__law_code_1 [.sh (.int (n : Int)), .sh (.str (st acc))] = .ok (.nx [.sh (.int ((n / 2 : Nat) : Int)), .sh (.str (st (el (n % 2) :: acc)))]) := by
          have m1 : modD (.int (n : Int)) (.int 2) = .ok (.int ((n : Int) % 2)) := modD_int _ _ (by decide)
          have m2 : fdivD (.int (n : Int)) (.int 2) = .ok (.int ((n : Int) / 2)) := fdivD_int _ _ (by decide)
          have m3 : addD (.str (st [el (n % 2)])) (.str (st acc)) = .ok (.str (st (el (n % 2) :: acc))) := by
            rw [addD_str _ _ (by rw [st_len, st_len]; unfold szN; simp; omega), st_app]
            rfl
          unfold lp__law_code_1
          simp [m1, m2, m3, ix_dotdash]
        rw [e1]
        simp only [R.bind_ok]
        rw [e2]
        simp only [R.bind_ok]
        rw [ih]
        show _ = R.ok (Fl.nx [_, .sh (.str (st (if n ≤ 1 then acc else codeF f (n / 2) (el (n % 2) :: acc))))])
        rw [if_neg h1]
theorem law_code_eq (n : Nat) (h : n < 128) : dn__law_code [.int (n : Int)] = .ok (.str (st (codeOf n))) := by
  obtain ⟨k, hl⟩ := code_loop 8 n [] 130 (by omega) (by simp) (by decide)
  unfold dn__law_code runB sNx bd__law_code
  simp only [List.map_cons, List.map_nil, sSeq_ap, sAsg_ap, dC_ap, R.bind_ok]
  have e : (("" : Str)) = st [] := by decide +kernel
  rw [e]
  show (noXm ((((sWhile 130 lt__law_code_2 lp__law_code_1) [.sh (.int (n : Int)), .sh (.str (st []))]).bind _).noexc)).bind _ = _
  rw [sWhile_ap, hl]
  rfl
theorem codes_good : ∀ n, 2 ≤ n → n < 128 → codeB (codeOf n) = true := by
  have : (List.range 128).all (fun n => decide (n < 2) || codeB (codeOf n)) = true := by decide +kernel
  intro n h2 h
  have := List.all_eq_true.mp this n (List.mem_range.mpr h)
  simp only [Bool.or_eq_true, decide_eq_true_eq] at this
  exact this.resolve_left (by omega)
theorem codeOf_inj {m n : Nat} (hm : 2 ≤ m ∧ m < 128) (hn : 2 ≤ n ∧ n < 128) (h : codeOf m = codeOf n) : m = n := by
  have key : (List.range 128).all (fun a => (List.range 128).all fun b => decide (a < 2) || decide (b < 2) || decide (a = b) || !decide (codeOf a = codeOf b)) = true := by decide +kernel
  have := List.all_eq_true.mp (List.all_eq_true.mp key m (List.mem_range.mpr hm.2)) n (List.mem_range.mpr hn.2)
  simp only [Bool.or_eq_true, decide_eq_true_eq, Bool.not_eq_true', decide_eq_false_iff_not] at this
  rcases this with ((a | a) | a) | a
  · omega
  · omega
  · exact a
  · exact absurd h a
end Tk

namespace Tk
open PySem L2 Dn
variable [Tabl]
/-! ### is_count -/
def isCnt (d : PD) (lo hi : Int) : Bool := match d with
  | .int v => decide (lo ≤ v) && decide (v ≤ hi)
  | _ => false
theorem is_count_eq (d : PD) (lo hi : Int) : dn_is_count [d, .int lo, .int hi] = .ok (.bool (isCnt d lo hi)) := by
  unfold dn_is_count runB sNx bd_is_count
  cases d with
  | int v =>
    by_cases h : lo ≤ v
    · simp [isIntD, isBoolD, isCnt, h]
    · simp [isIntD, isBoolD, isCnt, h]
  | _ => simp [isIntD, isBoolD, isCnt]
end Tk

namespace Tk
open PySem L2 Dn
variable [Tabl]
/-! ### speeds -/
abbrev spD (u w : Int) : PD := .tuple [.int u, .int w]
structure SpOk (u w : Int) : Prop where
  u1 : 1 ≤ u
  u9 : u ≤ 9
  w1 : 1 - u ≤ w
  w2 : w ≤ u - 1
/-- units of an element's tone -/
def elU (c : Nat) : Int := if c = 46 then 1 else 3
theorem elU_b (c : Nat) : 1 ≤ elU c ∧ elU c ≤ 3 := by unfold elU; split <;> decide
def unitsL (l : List Nat) : Int := (l.map elU).sum + l.length - 1
theorem sumD_of {α : Type} (f : α → Int) (l : List α) : sumD [.list (l.map fun a => .int (f a))] = .ok (.int (l.map f).sum) := by
  have e : asInts (l.map fun a => PyData.int (f a)) = some (l.map f) := by
    rw [← asInts_map (l.map f), List.map_map]
    rfl
  show (match asInts (l.map fun a => PyData.int (f a)) with
    | some ns => R.ok (PyData.int ns.sum)
    | none => .stuck) = _
  rw [e]
end Tk

namespace Tk
open PySem L2 Dn
variable [Tabl]
theorem is_speed_ok {u w : Int} (h : SpOk u w) : dn_is_speed [spD u w] = .ok (.bool true) := by
  obtain ⟨h1, h2, h3, h4⟩ := h
  unfold dn_is_speed runB sNx bd_is_speed
  simp [isTupD, is_count_eq, isCnt, cv_MOST_UNIT, h1, h2, h3, h4]
theorem need_speed_ok {u w : Int} (h : SpOk u w) : dn_need_speed [spD u w] = .ok .none := by
  unfold dn_need_speed runB bd_need_speed
  simp [is_speed_ok h]
theorem tone_long_eq (u w : Int) (c : Nat) : dn_tone_long [spD u w, sg c] = .ok (.int (elU c * u + w)) := by
  unfold dn_tone_long runB sNx bd_tone_long
  by_cases h : c = 46
  · simp [s_dot, sg_st, st_eq, h, elU, mulD_sl]
  · simp [s_dot, sg_st, st_eq, h, elU, mulD_sl]
theorem gap_long_eq (u w n : Int) (hn : 1 ≤ n ∧ n ≤ 7) : dn_gap_long [spD u w, .int n] = .ok (.int (n * u - w)) := by
  unfold dn_gap_long runB sNx bd_gap_long
  simp [mulD_sl n u (by omega) (by omega)]
end Tk

namespace Tk
open PySem L2 Dn
variable [Tabl]
def lspU (m : Int) : Int := 1 + m / 8 % (if m % 2 = 0 then 9 else 3)
def lspW (m : Int) : Int := if m / 64 % 2 = 0 then 0 else m / 512 % (2 * lspU m - 1) - lspU m + 1
theorem lspU_b (m : Int) : 1 ≤ lspU m ∧ lspU m ≤ 9 := by
  unfold lspU
  split <;> omega
theorem lsp_ok (m : Int) : SpOk (lspU m) (lspW m) := by
  obtain ⟨h1, h2⟩ := lspU_b m
  refine ⟨h1, h2, ?_, ?_⟩
  · unfold lspW
    split
    · omega
    · have := Int.emod_nonneg (m / 512) (show 2 * lspU m - 1 ≠ 0 by omega)
      omega
  · unfold lspW
    split
    · omega
    · have := Int.emod_lt_of_pos (m / 512) (show 0 < 2 * lspU m - 1 by omega)
      omega
theorem law_speed_eq (m : Int) : dn__law_speed [.int m] = .ok (spD (lspU m) (lspW m)) := by
  obtain ⟨h1, h2⟩ := lspU_b m
  have i1 : ixD (.list [.int 9, .int 3]) (.int (m % 2)) = .ok (.int (if m % 2 = 0 then 9 else 3)) := by
    have : m % 2 = 0 ∨ m % 2 = 1 := by omega
    rcases this with e | e <;> rw [e] <;> rfl
  have i2 : ∀ x : PD, ixD (.list [.int 0, x]) (.int (m / 64 % 2)) = .ok (if m / 64 % 2 = 0 then .int 0 else x) := fun x => by
    have : m / 64 % 2 = 0 ∨ m / 64 % 2 = 1 := by omega
    rcases this with e | e <;> rw [e] <;> rfl
  have m1 : modD (.int (m / 8)) (.int (if m % 2 = 0 then 9 else 3)) = .ok (.int (m / 8 % (if m % 2 = 0 then 9 else 3))) := modD_int _ _ (by split <;> decide)
  have hU : (1 + m / 8 % (if m % 2 = 0 then 9 else 3)) = lspU m := rfl
  have m2 : modD (.int (m / 512)) (.int (2 * lspU m - 1)) = .ok (.int (m / 512 % (2 * lspU m - 1))) := modD_int _ _ (by omega)
  have hW : (if m / 64 % 2 = 0 then PyData.int 0 else .int (m / 512 % (2 * lspU m - 1) - lspU m + 1)) = .int (lspW m) := by
    unfold lspW
    split <;> rfl
  unfold dn__law_speed runB sNx bd__law_speed
  simp [fdivD_sm, modD_int, i1, i2, m1, hU, mulD_sl, m2, hW]
end Tk

namespace Tk
open PySem L2 Dn
variable [Tabl]
/-! ### keyers, plainly -/
inductive Mn where
  | p
  | a
  | b
  deriving DecidableEq
def mnL : Mn → List Nat
  | .p => [112, 108, 97, 105, 110]
  | .a => [97]
  | .b => [98]
abbrev mnD (m : Mn) : PD := .str (st (mnL m))
def Mn.isP : Mn → Bool
  | .p => true
  | _ => false
def Mn.isB : Mn → Bool
  | .b => true
  | _ => false
def elL : Option Bool → List Nat
  | none => []
  | some true => [46]
  | some false => [45]
abbrev elD (e : Option Bool) : PD := .str (st (elL e))
def isDot : Option Bool → Bool
  | some true => true
  | _ => false
def oth : Option Bool → Bool
  | some true => false
  | _ => true
/-- ticks of an element's tone -/
def tnL (u w : Int) (e : Bool) : Int := (if e then 1 else 3) * u + w
structure Kst where
  mn : Mn
  u : Int
  w : Int
  el : Option Bool
  tl : Int
  gl : Int
  ah : Option Bool
  sq : Bool
  hl : Bool
  hr : Bool
  rows : List (Int × Bool)
  ck : Int
def rwD (p : Int × Bool) : PD := .tuple [.int p.1, elD (some p.2)]
def kO (s : Kst) : List FV := [.sh (mnD s.mn), .sh (spD s.u s.w), .sh (elD s.el), .sh (.int s.tl), .sh (.int s.gl), .sh (elD s.ah), .sh (.bool s.sq), .sh (.tuple [.bool s.hl, .bool s.hr]), .ol (s.rows.map rwD), .sh (.int s.ck)]
def wishF (s : Kst) (l r : Bool) : Option Bool :=
  if s.ah.isSome then s.ah
  else if l && r then (if s.mn.isP || s.el.isNone then some true else some (oth s.el))
  else if l || r then some l
  else if s.mn.isB && s.sq then some (oth s.el)
  else none
def pressed (s : Kst) (l r : Bool) : Bool := if isDot s.el then r && !s.hr else l && !s.hl
def noteF (s : Kst) (l r : Bool) : Kst := { s with ah := if !s.mn.isP && pressed s l r then some (oth s.el) else s.ah, sq := s.sq || (l && r) }
def beginF (s : Kst) (l r : Bool) : Kst := match wishF s l r with
  | none => { s with el := none, ah := none, sq := l && r }
  | some e => { s with el := some e, ah := none, sq := l && r, rows := s.rows ++ [(s.ck, e)], tl := tnL s.u s.w e, gl := s.u - s.w }
def stepB (s : Kst) (l r : Bool) : Kst := { (if s.tl + s.gl > 0 then noteF s l r else beginF s l r) with hl := l, hr := r, ck := s.ck + 1 }
def stepF (s : Kst) (l r : Bool) : Kst := if (stepB s l r).tl > 0 then { stepB s l r with tl := (stepB s l r).tl - 1 } else { stepB s l r with gl := max 0 ((stepB s l r).gl - 1) }
def toneF (s : Kst) (l r : Bool) : Bool := decide ((stepB s l r).tl > 0)
def restF (s : Kst) : Bool := decide (s.tl + s.gl = 0) && (wishF s false false).isNone
def initK (m : Mn) (u w : Int) : Kst := ⟨m, u, w, none, 0, 0, none, false, false, false, [], 0⟩
abbrev Keys := Bool × Bool
def kyD (k : Keys) : PD := .tuple [.bool k.1, .bool k.2]
def haD (h : List Keys) : PD := .list (h.map kyD)
def runK1 : Kst → List Keys → Kst
  | s, [] => s
  | s, k :: r => runK1 (stepF s k.1 k.2) r
def tonesK : Kst → List Keys → List Bool
  | _, [] => []
  | s, k :: r => toneF s k.1 k.2 :: tonesK (stepF s k.1 k.2) r
theorem runK1_app : ∀ (a b : List Keys) (s : Kst), runK1 s (a ++ b) = runK1 (runK1 s a) b
  | [], _, _ => rfl
  | k :: r, b, s => runK1_app r b _
theorem tonesK_app : ∀ (a b : List Keys) (s : Kst), tonesK s (a ++ b) = tonesK s a ++ tonesK (runK1 s a) b
  | [], _, _ => rfl
  | k :: r, b, s => by
    show toneF s k.1 k.2 :: tonesK _ (r ++ b) = _
    rw [tonesK_app r b]
    rfl
theorem tonesK_len : ∀ (a : List Keys) (s : Kst), (tonesK s a).length = a.length
  | [], _ => rfl
  | k :: r, s => by
    show (tonesK _ r).length + 1 = r.length + 1
    rw [tonesK_len r]
/-! ### literal texts -/
theorem s_plain : ("plain" : Str) = st [112, 108, 97, 105, 110] := by decide +kernel
theorem s_a : ("a" : Str) = st [97] := by decide +kernel
theorem s_b : ("b" : Str) = st [98] := by decide +kernel
theorem c_no : PyData.str "" = elD none := congrArg PyData.str s_empty
theorem c_dot : PyData.str "." = elD (some true) := congrArg PyData.str s_dot
theorem c_dash : PyData.str "-" = elD (some false) := congrArg PyData.str s_dash
theorem c_plain : PyData.str "plain" = mnD .p := congrArg PyData.str s_plain
theorem c_a : PyData.str "a" = mnD .a := congrArg PyData.str s_a
theorem c_b : PyData.str "b" = mnD .b := congrArg PyData.str s_b
theorem ne_el_no (e : Option Bool) : neD (elD e) (elD none) = .ok (.bool e.isSome) := by
  rcases e with _ | (_ | _) <;> simp [st_eq, elL]
theorem eq_el_no (e : Option Bool) : eqD (elD e) (elD none) = .ok (.bool e.isNone) := by
  rcases e with _ | (_ | _) <;> simp [st_eq, elL]
theorem eq_el_dot (e : Option Bool) : eqD (elD e) (elD (some true)) = .ok (.bool (isDot e)) := by
  rcases e with _ | (_ | _) <;> simp [st_eq, elL, isDot]
theorem eq_mn_p (m : Mn) : eqD (mnD m) (mnD .p) = .ok (.bool m.isP) := by
  cases m <;> simp [st_eq, mnL, Mn.isP]
theorem ne_mn_p (m : Mn) : neD (mnD m) (mnD .p) = .ok (.bool (!m.isP)) := by
  cases m <;> simp [st_eq, mnL, Mn.isP]
theorem eq_mn_b (m : Mn) : eqD (mnD m) (mnD .b) = .ok (.bool m.isB) := by
  cases m <;> simp [st_eq, mnL, Mn.isB]
end Tk

namespace Tk
open PySem L2 Dn
variable [Tabl]
/-! ### keyers: what their methods come to -/
theorem other_eq (e : Option Bool) : dn_other_one [elD e] = .ok (elD (some (oth e))) := by
  unfold dn_other_one runB sNx bd_other_one
  rcases e with _ | (_ | _) <;> simp [s_dot, s_dash, st_eq, elL, oth]
theorem tone_el (u w : Int) (e : Bool) : dn_tone_long [spD u w, elD (some e)] = .ok (.int (tnL u w e)) := by
  cases e with
  | true => exact tone_long_eq u w 46
  | false => exact tone_long_eq u w 45
theorem wish_eq (s : Kst) (l r : Bool) : mt_Keyer_wish (kO s) [.bool l, .bool r] = .ok (elD (wishF s l r)) (kO s) := by
  refine runM_rm (r := [.sh (.bool l), .sh (.bool r)]) ?_
  have o := other_eq s.el
  have n1 := ne_el_no s.ah
  have e1 := eq_mn_p s.mn
  have e2 := eq_el_no s.el
  have e3 := eq_mn_b s.mn
  unfold wishF kO
  generalize hP : s.mn.isP = P at e1
  generalize hB : s.mn.isB = B at e3
  generalize hE : s.el.isNone = E at e2
  cases hA : s.ah.isSome with
  | true =>
    rw [hA] at n1
    simp [bd_Keyer_wish, c_no, n1]
  | false =>
    rw [hA] at n1
    cases l <;> cases r
    · cases B <;> cases hS : s.sq <;> simp [bd_Keyer_wish, c_no, c_dot, c_plain, c_b, n1, e1, e2, e3, o]
    · simp [bd_Keyer_wish, n1, c_no, c_dash]
    · simp [bd_Keyer_wish, n1, c_no, c_dot]
    · cases P <;> cases E <;> simp [bd_Keyer_wish, c_no, c_dot, c_plain, c_b, n1, e1, e2, e3, o]
theorem note_eq (s : Kst) (l r : Bool) : mt_Keyer_note (kO s) [.bool l, .bool r] = .ok .none (kO (noteF s l r)) := by
  refine runM_nx (r := [.sh (.bool l), .sh (.bool r), .sh (.bool (pressed s l r))]) ?_
  have o := other_eq s.el
  have n1 := ne_mn_p s.mn
  have e1 := eq_el_dot s.el
  have i0 : ∀ x y : Bool, ixD (.tuple [.bool x, .bool y]) (.int 0) = .ok (.bool x) := fun _ _ => rfl
  have i1 : ∀ x y : Bool, ixD (.tuple [.bool x, .bool y]) (.int 1) = .ok (.bool y) := fun _ _ => rfl
  have k3 : dIf (dTest (d2 eqD (dFld 0 "Keyer" nm_Keyer 2) (dC (.str ".")))) (dAndV (dVar 2) (d1 notD (d2 ixD (dFld 0 "Keyer" nm_Keyer 7) (dC (.int 1))))) (dAndV (dVar 1) (d1 notD (d2 ixD (dFld 0 "Keyer" nm_Keyer 7) (dC (.int 0))))) [.ob true "Keyer" nm_Keyer (kO s), .sh (.bool l), .sh (.bool r), .no] = .ok (.bool (pressed s l r)) := by
    unfold kO pressed
    cases hD : isDot s.el with
    | true =>
      rw [hD] at e1
      cases r <;> simp [c_dot, e1, i1]
    | false =>
      rw [hD] at e1
      cases l <;> simp [c_dot, e1, i0]
  show sNx (sSeq (sAsg 3 _) _) _ = _
  rw [sNx_ap, sSeq_ap, sAsg_ap]
  show noXm (R.noexc (R.bind (R.bind (dIf _ _ _ [.ob true "Keyer" nm_Keyer (kO s), .sh (.bool l), .sh (.bool r), .no]) _) _)) = _
  rw [k3]
  unfold noteF kO
  generalize pressed s l r = pr
  generalize hP : s.mn.isP = P at n1
  cases pr <;> cases P <;> cases l <;> cases r <;> simp [c_plain, n1, o]
theorem begin_eq (s : Kst) (l r : Bool) (hl : s.rows.length ≤ 100000) : mt_Keyer_begin (kO s) [.bool l, .bool r] = .ok .none (kO (beginF s l r)) := by
  refine runM_nx (r := [.sh (.bool l), .sh (.bool r)]) ?_
  have w := wish_eq s l r
  unfold beginF
  cases hW : wishF s l r with
  | none =>
    rw [hW] at w
    have n1 := ne_el_no none
    unfold kO at w ⊢
    cases l <;> simp [bd_Keyer_begin, w, c_no, n1]
  | some e =>
    rw [hW] at w
    have n1 := ne_el_no (some e)
    have t := tone_el s.u s.w e
    have g := gap_long_eq s.u s.w 1 (by decide)
    unfold kO at w ⊢
    cases l <;> simp [bd_Keyer_begin, w, c_no, n1, t, g, szN_eq, show s.rows.length ≤ 999999 by omega, rwD]
theorem step_eq (s : Kst) (l r : Bool) (hl : s.rows.length ≤ 100000) : mt_Keyer_step (kO s) [.bool l, .bool r] = .ok (.bool (toneF s l r)) (kO (stepF s l r)) := by
  have n := note_eq s l r
  have b := begin_eq s l r hl
  have key : ∀ s2 : Kst, (if s.tl + s.gl > 0 then noteF s l r else beginF s l r) = s2 → s2.ck = s.ck → bd_Keyer_step [.ob true "Keyer" nm_Keyer (kO s), .sh (.bool l), .sh (.bool r)] = .ok (.rm (.bool (decide (s2.tl > 0))) [.ob true "Keyer" nm_Keyer (kO (if s2.tl > 0 then { s2 with hl := l, hr := r, ck := s.ck + 1, tl := s2.tl - 1 } else { s2 with hl := l, hr := r, ck := s.ck + 1, gl := max 0 (s2.gl - 1) })), .sh (.bool l), .sh (.bool r)]) := by
    intro s2 h2 hc
    have mx : ∀ i : Int, (if i > 0 then i else 0) = max 0 i := fun i => by omega
    by_cases hp : s.tl + s.gl > 0
    · rw [if_pos hp] at h2
      rw [h2] at n
      by_cases ht : s2.tl > 0
      · unfold kO at n ⊢
        simp [bd_Keyer_step, isBoolD, hp, n, hc, ht]
      · unfold kO at n ⊢
        simp [bd_Keyer_step, isBoolD, hp, n, hc, ht]
        omega
    · rw [if_neg hp] at h2
      rw [h2] at b
      by_cases ht : s2.tl > 0
      · unfold kO at b ⊢
        simp [bd_Keyer_step, isBoolD, hp, b, hc, ht]
      · unfold kO at b ⊢
        simp [bd_Keyer_step, isBoolD, hp, b, hc, ht]
        omega
  have hc : (if s.tl + s.gl > 0 then noteF s l r else beginF s l r).ck = s.ck := by
    split
    · rfl
    · unfold beginF
      split <;> rfl
  have e := runM_rm (N := 3) (ds := [.bool l, .bool r]) (r := [.sh (.bool l), .sh (.bool r)]) (key (if s.tl + s.gl > 0 then noteF s l r else beginF s l r) rfl hc)
  exact e
theorem rest_eq (s : Kst) : mt_Keyer_is_at_rest (kO s) [] = .ok (.bool (restF s)) (kO s) := by
  refine runM_rm (r := []) ?_
  have w := wish_eq s false false
  have e := eq_el_no (wishF s false false)
  unfold restF
  generalize wishF s false false = x at w e
  by_cases h : s.tl + s.gl = 0
  · unfold kO at w ⊢
    simp [bd_Keyer_is_at_rest, h, w, c_no, e]
  · unfold kO at w ⊢
    simp [bd_Keyer_is_at_rest, h]
theorem made_eq (s : Kst) (hl : s.rows.length ≤ 100000) : mt_Keyer_made (kO s) [] = .ok (.list (s.rows.map rwD)) (kO s) := by
  refine runM_rm (r := []) ?_
  have e : listD [.list (s.rows.map rwD)] = .ok (s.rows.map rwD) := if_pos (by rw [List.length_map, szN_eq]; omega)
  unfold kO
  simp [bd_Keyer_made, e]
theorem need_manner_ok (m : Mn) : dn_need_manner [mnD m] = .ok .none := by
  have i : inD true (mnD m) cv_MANNERS = .ok (.bool false) := by
    unfold cv_MANNERS
    rw [c_plain, c_a, c_b]
    cases m <;> simp [inD, flatD, inF, eqF, st_eq, mnL]
  unfold dn_need_manner runB bd_need_manner
  simp [isStrD, i]
theorem init_eq (m : Mn) (u w : Int) (h : SpOk u w) : mt_Keyer___init__ [] [mnD m, spD u w] = .ok .none (kO (initK m u w)) := by
  refine runM_nx (r := [.sh (mnD m), .sh (spD u w)]) ?_
  unfold kO initK
  simp [bd_Keyer___init__, need_manner_ok, need_speed_ok h, c_no]
end Tk

namespace Tk
open PySem L2 Dn
variable [Tabl]
/-! ### keyers: whole elements -/
structure Kst.Ok (s : Kst) : Prop where
  t0 : 0 ≤ s.tl
  g0 : 0 ≤ s.gl
  u1 : 1 ≤ s.u
  u9 : s.u ≤ 9
  w1 : 1 - s.u ≤ s.w
  w2 : s.w ≤ s.u - 1
def noteN (s : Kst) (k : Keys) : Kst := { noteF s k.1 k.2 with hl := k.1, hr := k.2, ck := s.ck + 1 }
def noteR (s : Kst) (hs : List Keys) : Kst := hs.foldl noteN s
def cutT (s : Kst) (n : Int) : Kst := { s with tl := max 0 (s.tl - n), gl := min s.gl (s.tl + s.gl - n) }
def freeS (s : Kst) : Kst := { s with tl := 0, gl := 0 }
theorem step_note (s : Kst) (k : Keys) (h0 : 0 ≤ s.tl) (h1 : 0 ≤ s.gl) (h : 0 < s.tl + s.gl) : stepF s k.1 k.2 = cutT (noteN s k) 1 ∧ toneF s k.1 k.2 = decide (0 < s.tl) := by
  have e : stepB s k.1 k.2 = noteN s k := by
    unfold stepB
    rw [if_pos h]
    rfl
  unfold stepF toneF
  rw [e]
  refine ⟨?_, rfl⟩
  have a1 : (noteN s k).tl = s.tl := rfl
  have a2 : (noteN s k).gl = s.gl := rfl
  unfold cutT
  by_cases ht : 0 < s.tl
  · rw [if_pos (show (noteN s k).tl > 0 from ht)]
    have b1 : max 0 ((noteN s k).tl - 1) = (noteN s k).tl - 1 := by rw [a1]; omega
    have b2 : min (noteN s k).gl ((noteN s k).tl + (noteN s k).gl - 1) = (noteN s k).gl := by rw [a1, a2]; omega
    rw [b1, b2]
  · rw [if_neg (show ¬ (noteN s k).tl > 0 from ht)]
    have b1 : max 0 ((noteN s k).tl - 1) = (noteN s k).tl := by rw [a1]; omega
    have b2 : min (noteN s k).gl ((noteN s k).tl + (noteN s k).gl - 1) = max 0 ((noteN s k).gl - 1) := by rw [a1, a2]; omega
    rw [b1, b2]
theorem noteR_cut (n : Int) : ∀ (hs : List Keys) (s : Kst), noteR (cutT s n) hs = cutT (noteR s hs) n
  | [], _ => rfl
  | k :: r, s => by
    show noteR (noteN (cutT s n) k) r = cutT (noteR (noteN s k) r) n
    rw [← noteR_cut n r (noteN s k)]
    rfl
theorem cut_zero (s : Kst) (h0 : 0 ≤ s.tl) (h1 : 0 ≤ s.gl) : cutT s 0 = s := by
  have b1 : max 0 (s.tl - 0) = s.tl := by omega
  have b2 : min s.gl (s.tl + s.gl - 0) = s.gl := by omega
  unfold cutT
  rw [b1, b2]
theorem cut_cut (s : Kst) (n : Int) (h0 : 0 ≤ s.tl) (h1 : 0 ≤ s.gl) (h : 0 < s.tl + s.gl) (hn : 0 ≤ n) : cutT (cutT s 1) n = cutT s (n + 1) := by
  unfold cutT
  have b1 : max 0 (max 0 (s.tl - 1) - n) = max 0 (s.tl - (n + 1)) := by omega
  have b2 : min (min s.gl (s.tl + s.gl - 1)) (max 0 (s.tl - 1) + min s.gl (s.tl + s.gl - 1) - n) = min s.gl (s.tl + s.gl - (n + 1)) := by omega
  dsimp only
  rw [b1, b2]
theorem noteR_tg : ∀ (hs : List Keys) (s : Kst), (noteR s hs).tl = s.tl ∧ (noteR s hs).gl = s.gl ∧ (noteR s hs).u = s.u ∧ (noteR s hs).w = s.w ∧ (noteR s hs).mn = s.mn ∧ (noteR s hs).el = s.el ∧ (noteR s hs).rows = s.rows ∧ (noteR s hs).ck = s.ck + hs.length
  | [], s => ⟨rfl, rfl, rfl, rfl, rfl, rfl, rfl, by simp [noteR]⟩
  | k :: r, s => by
    obtain ⟨h1, h2, h3, h4, h5, h6, h7, h8⟩ := noteR_tg r (noteN s k)
    refine ⟨h1, h2, h3, h4, h5, h6, h7, ?_⟩
    show (noteR (noteN s k) r).ck = _
    rw [h8, List.length_cons]
    show s.ck + 1 + (r.length : Int) = s.ck + ((r.length + 1 : Nat) : Int)
    omega
theorem run_note : ∀ (hs : List Keys) (s : Kst), 0 ≤ s.tl → 0 ≤ s.gl → (hs.length : Int) ≤ s.tl + s.gl → runK1 s hs = cutT (noteR s hs) hs.length ∧ tonesK s hs = (List.range hs.length).map fun (i : Nat) => decide ((i : Int) < s.tl)
  | [], s, h0, h1, _ => ⟨(cut_zero s h0 h1).symm, rfl⟩
  | k :: r, s, h0, h1, h => by
    rw [List.length_cons] at h
    obtain ⟨e1, e2⟩ := step_note s k h0 h1 (by omega)
    have a1 : (noteN s k).tl = s.tl := rfl
    have a2 : (noteN s k).gl = s.gl := rfl
    have c1 : (cutT (noteN s k) 1).tl = max 0 (s.tl - 1) := rfl
    have c2 : (cutT (noteN s k) 1).gl = min s.gl (s.tl + s.gl - 1) := rfl
    obtain ⟨i1, i2⟩ := run_note r (cutT (noteN s k) 1) (by rw [c1]; omega) (by rw [c2]; omega) (by rw [c1, c2]; omega)
    constructor
    · show runK1 (stepF s k.1 k.2) r = cutT (noteR (noteN s k) r) ((r.length + 1 : Nat) : Int)
      rw [e1, i1, noteR_cut, cut_cut _ _ ?_ ?_ ?_ (by omega)]
      · rfl
      · rw [(noteR_tg r _).1]; exact h0
      · rw [(noteR_tg r _).2.1]; exact h1
      · rw [(noteR_tg r _).1, (noteR_tg r _).2.1, a1, a2]; omega
    · show toneF s k.1 k.2 :: tonesK (stepF s k.1 k.2) r = _
      rw [e1, e2, i2, List.length_cons, List.range_succ_eq_map, List.map_cons, List.map_map, c1]
      congr 1
      apply List.map_congr_left
      intro i _
      show decide ((i : Int) < max 0 (s.tl - 1)) = decide (((i + 1 : Nat) : Int) < s.tl)
      congr 1
      apply propext
      omega
/-- ticks of an element, what is behind it with it -/
def dL (u : Int) (e : Bool) : Int := if e then 2 * u else 4 * u
theorem dL_eq (u w : Int) (e : Bool) : tnL u w e + (u - w) = dL u e := by
  unfold tnL dL
  cases e <;> simp <;> omega
theorem dL_b {u : Int} (h1 : 1 ≤ u) (h9 : u ≤ 9) (e : Bool) : 2 ≤ dL u e ∧ dL u e ≤ 36 := by
  unfold dL
  cases e <;> simp <;> omega
def begS (s : Kst) (k : Keys) (e : Bool) : Kst := { s with el := some e, ah := none, sq := k.1 && k.2, rows := s.rows ++ [(s.ck, e)], tl := tnL s.u s.w e, gl := s.u - s.w, hl := k.1, hr := k.2, ck := s.ck + 1 }
theorem tnL_pos {u w : Int} (h1 : 1 ≤ u) (h2 : 1 - u ≤ w) (e : Bool) : 1 ≤ tnL u w e := by
  unfold tnL
  cases e <;> simp <;> omega
theorem step_begin (s : Kst) (o : s.Ok) (ht : s.tl = 0) (hg : s.gl = 0) (k : Keys) (e : Bool) (hw : wishF s k.1 k.2 = some e) : stepF s k.1 k.2 = cutT (begS s k e) 1 ∧ toneF s k.1 k.2 = true := by
  have h : ¬ s.tl + s.gl > 0 := by omega
  have tp := tnL_pos o.u1 o.w1 e
  have e1 : stepB s k.1 k.2 = begS s k e := by
    unfold stepB
    rw [if_neg h]
    unfold beginF
    rw [hw]
    rfl
  unfold stepF toneF
  rw [e1]
  have a1 : (begS s k e).tl = tnL s.u s.w e := rfl
  have hp : (begS s k e).tl > 0 := by rw [a1]; omega
  rw [if_pos hp]
  refine ⟨?_, decide_eq_true hp⟩
  unfold cutT
  have a2 : (begS s k e).gl = s.u - s.w := rfl
  have w2 := o.w2
  have b1 : max 0 ((begS s k e).tl - 1) = (begS s k e).tl - 1 := by rw [a1]; omega
  have b2 : min (begS s k e).gl ((begS s k e).tl + (begS s k e).gl - 1) = (begS s k e).gl := by rw [a1, a2]; omega
  rw [b1, b2]
theorem run_elem (s : Kst) (o : s.Ok) (ht : s.tl = 0) (hg : s.gl = 0) (k : Keys) (e : Bool) (hw : wishF s k.1 k.2 = some e) (hs : List Keys) (hl : (hs.length : Int) + 1 ≤ dL s.u e) :
    runK1 s (k :: hs) = cutT (noteR (begS s k e) hs) ((hs.length : Int) + 1) ∧ tonesK s (k :: hs) = (List.range (hs.length + 1)).map fun (i : Nat) => decide ((i : Int) < tnL s.u s.w e) := by
  obtain ⟨e1, e2⟩ := step_begin s o ht hg k e hw
  have tp := tnL_pos o.u1 o.w1 e
  have de := dL_eq s.u s.w e
  have w2 := o.w2
  have a1 : (begS s k e).tl = tnL s.u s.w e := rfl
  have a2 : (begS s k e).gl = s.u - s.w := rfl
  have c1 : (cutT (begS s k e) 1).tl = max 0 (tnL s.u s.w e - 1) := rfl
  have c2 : (cutT (begS s k e) 1).gl = min (s.u - s.w) (tnL s.u s.w e + (s.u - s.w) - 1) := rfl
  obtain ⟨i1, i2⟩ := run_note hs (cutT (begS s k e) 1) (by rw [c1]; omega) (by rw [c2]; omega) (by rw [c1, c2]; omega)
  constructor
  · show runK1 (stepF s k.1 k.2) hs = _
    rw [e1, i1, noteR_cut, cut_cut _ _ ?_ ?_ ?_ (by omega)]
    · rw [(noteR_tg hs _).1, a1]; omega
    · rw [(noteR_tg hs _).2.1, a2]; omega
    · rw [(noteR_tg hs _).1, (noteR_tg hs _).2.1, a1, a2]; omega
  · show toneF s k.1 k.2 :: tonesK (stepF s k.1 k.2) hs = _
    rw [e1, e2, i2, List.range_succ_eq_map, List.map_cons, List.map_map, c1]
    have z : decide (((0 : Nat) : Int) < tnL s.u s.w e) = true := decide_eq_true (by omega)
    rw [z]
    congr 1
    apply List.map_congr_left
    intro i _
    show decide ((i : Int) < max 0 (tnL s.u s.w e - 1)) = decide (((i + 1 : Nat) : Int) < tnL s.u s.w e)
    congr 1
    apply propext
    omega
theorem cut_full (s : Kst) (n : Int) (h0 : 0 ≤ s.tl) (h1 : 0 ≤ s.gl) (h : n = s.tl + s.gl) : cutT s n = freeS s := by
  unfold cutT freeS
  have b1 : max 0 (s.tl - n) = 0 := by omega
  have b2 : min s.gl (s.tl + s.gl - n) = 0 := by omega
  rw [b1, b2]
theorem run_whole (s : Kst) (o : s.Ok) (ht : s.tl = 0) (hg : s.gl = 0) (k : Keys) (e : Bool) (hw : wishF s k.1 k.2 = some e) (hs : List Keys) (hl : (hs.length : Int) + 1 = dL s.u e) : runK1 s (k :: hs) = freeS (noteR (begS s k e) hs) := by
  have tp := tnL_pos o.u1 o.w1 e
  have w2 := o.w2
  have a1 : (begS s k e).tl = tnL s.u s.w e := rfl
  have a2 : (begS s k e).gl = s.u - s.w := rfl
  rw [(run_elem s o ht hg k e hw hs (by omega)).1, cut_full]
  · rw [(noteR_tg hs _).1, a1]; omega
  · rw [(noteR_tg hs _).2.1, a2]; omega
  · rw [(noteR_tg hs _).1, (noteR_tg hs _).2.1, a1, a2, dL_eq]; exact hl
/-! ### both keys, none -/
abbrev TT (n : Nat) : List Keys := List.replicate n (true, true)
abbrev FF (n : Nat) : List Keys := List.replicate n (false, false)
theorem note_TT (s : Kst) (h1 : s.hl = true) (h2 : s.hr = true) (h3 : s.sq = true) : noteN s (true, true) = { s with ck := s.ck + 1 } := by
  obtain ⟨mn, u, w, el, tl, gl, ah, sq, hl, hr, rows, ck⟩ := s
  simp only at h1 h2 h3
  subst h1 h2 h3
  unfold noteN noteF pressed
  simp
theorem noteR_TT : ∀ (n : Nat) (s : Kst), s.hl = true → s.hr = true → s.sq = true → noteR s (TT n) = { s with ck := s.ck + n }
  | 0, s, _, _, _ => by simp [noteR]
  | n + 1, s, h1, h2, h3 => by
    show noteR (noteN s (true, true)) (TT n) = _
    rw [note_TT s h1 h2 h3, noteR_TT n { s with ck := s.ck + 1 } h1 h2 h3]
    have : s.ck + 1 + (n : Int) = s.ck + ((n + 1 : Nat) : Int) := by omega
    dsimp only
    rw [this]
theorem note_FF (s : Kst) : noteN s (false, false) = { s with hl := false, hr := false, ck := s.ck + 1 } := by
  unfold noteN noteF pressed
  simp
theorem noteR_FF : ∀ (n : Nat) (s : Kst), (noteR s (FF n)).ah = s.ah ∧ (noteR s (FF n)).sq = s.sq
  | 0, s => ⟨rfl, rfl⟩
  | n + 1, s => by
    have e : noteR s (FF (n + 1)) = noteR (noteN s (false, false)) (FF n) := rfl
    rw [e, note_FF]
    exact noteR_FF n _
/-! ### till it rests -/
def fin : Nat → Kst → Kst × List Bool
  | 0, s => (s, [])
  | n + 1, s => if restF s = true then (s, []) else ((fin n (stepF s false false)).1, toneF s false false :: (fin n (stepF s false false)).2)
theorem fin_of : ∀ (n k : Nat) (s : Kst), k ≤ n → restF (runK1 s (FF k)) = true → (∀ j, j < k → restF (runK1 s (FF j)) = false) → fin n s = (runK1 s (FF k), tonesK s (FF k))
  | 0, 0, s, _, _, _ => rfl
  | n + 1, 0, s, _, h, _ => by
    have h : restF s = true := h
    unfold fin
    rw [if_pos h]
    rfl
  | 0, k + 1, s, h, _, _ => by omega
  | n + 1, k + 1, s, hk, h, hj => by
    have h0 : restF s = false := hj 0 (Nat.succ_pos k)
    have ih := fin_of n k (stepF s false false) (by omega) h fun j hj' => hj (j + 1) (by omega)
    unfold fin
    rw [h0, if_neg (by decide), ih]
    rfl
theorem rest_not (s : Kst) (h : 0 < s.tl + s.gl) : restF s = false := by
  unfold restF
  rw [decide_eq_false (by omega)]
  rfl
theorem rest_free (s : Kst) (ht : s.tl = 0) (hg : s.gl = 0) : restF s = (wishF s false false).isNone := by
  unfold restF
  rw [decide_eq_true (by omega)]
  rfl
/-- how a keyer ends, no key held any more -/
theorem fin_eq (s : Kst) (o : s.Ok) (N n : Nat) (hn : (n : Int) = s.tl + s.gl) (hN : n + 40 ≤ N) :
    (wishF s false false = none → fin N s = (freeS (noteR s (FF n)), tonesK s (FF n)) ∧ restF (freeS (noteR s (FF n))) = true) ∧
    (∀ e, wishF s false false = some e → ∃ m : Nat, (m : Int) = dL s.u e ∧ fin N s = (runK1 s (FF (n + m)), tonesK s (FF (n + m))) ∧ runK1 s (FF (n + m)) = freeS (noteR (begS (freeS (noteR s (FF n))) (false, false) e) (FF (m - 1))) ∧ restF (runK1 s (FF (n + m))) = true) := by
  have hrun : ∀ j : Nat, j ≤ n → runK1 s (FF j) = cutT (noteR s (FF j)) j := fun j hj => by
    have := (run_note (FF j) s o.t0 o.g0 (by rw [List.length_replicate]; omega)).1
    rw [List.length_replicate] at this
    exact this
  have tg := fun j => noteR_tg (FF j) s
  have hfree : runK1 s (FF n) = freeS (noteR s (FF n)) := by
    rw [hrun n (Nat.le_refl n), cut_full]
    · rw [(tg n).1]; exact o.t0
    · rw [(tg n).2.1]; exact o.g0
    · rw [(tg n).1, (tg n).2.1]; exact hn
  have hnot : ∀ j, j < n → restF (runK1 s (FF j)) = false := fun j hj => by
    rw [hrun j (by omega)]
    apply rest_not
    show 0 < max 0 ((noteR s (FF j)).tl - (j : Int)) + min (noteR s (FF j)).gl ((noteR s (FF j)).tl + (noteR s (FF j)).gl - (j : Int))
    rw [(tg j).1, (tg j).2.1]
    have h0 := o.t0
    have h1 := o.g0
    omega
  have hwish : wishF (freeS (noteR s (FF n))) false false = wishF s false false := by
    obtain ⟨a, b⟩ := noteR_FF n s
    have c := (tg n).2.2.2.2
    unfold wishF freeS
    dsimp only
    rw [a, b, c.1, c.2.1]
  have oF : (freeS (noteR s (FF n))).Ok := ⟨Int.le_refl 0, Int.le_refl 0, by rw [show (freeS (noteR s (FF n))).u = s.u from (tg n).2.2.1]; exact o.u1, by rw [show (freeS (noteR s (FF n))).u = s.u from (tg n).2.2.1]; exact o.u9, by rw [show (freeS (noteR s (FF n))).u = s.u from (tg n).2.2.1, show (freeS (noteR s (FF n))).w = s.w from (tg n).2.2.2.1]; exact o.w1, by rw [show (freeS (noteR s (FF n))).u = s.u from (tg n).2.2.1, show (freeS (noteR s (FF n))).w = s.w from (tg n).2.2.2.1]; exact o.w2⟩
  constructor
  · intro hw
    have hrr : restF (runK1 s (FF n)) = true := by rw [hfree, rest_free _ rfl rfl, hwish, hw]; rfl
    rw [fin_of N n s (by omega) hrr hnot, hfree]
    rw [hfree] at hrr
    exact ⟨rfl, hrr⟩
  · intro e hw
    have hd : 2 ≤ dL s.u e ∧ dL s.u e ≤ 36 := by
      have h1 := o.u1
      have h2 := o.u9
      unfold dL
      cases e <;> simp <;> omega
    refine ⟨(dL s.u e).toNat, by omega, ?_⟩
    generalize hm : (dL s.u e).toNat = m
    have hm2 : (m : Int) = dL s.u e := by omega
    generalize hF : freeS (noteR s (FF n)) = sF at hwish oF hfree
    have uF : sF.u = s.u := by rw [← hF]; exact (tg n).2.2.1
    have tF : sF.tl = 0 := by rw [← hF]; rfl
    have gF : sF.gl = 0 := by rw [← hF]; rfl
    have hspl : ∀ j, runK1 s (FF (n + j)) = runK1 sF (FF j) := fun j => by
      rw [show FF (n + j) = FF n ++ FF j from (List.replicate_append_replicate ..).symm, runK1_app, hfree]
    have hFF : ∀ j : Nat, FF (j + 1) = (false, false) :: FF j := fun j => rfl
    have hend : runK1 s (FF (n + m)) = freeS (noteR (begS sF (false, false) e) (FF (m - 1))) := by
      rw [hspl]
      obtain ⟨m', rfl⟩ : ∃ m', m = m' + 1 := ⟨m - 1, by omega⟩
      rw [hFF, run_whole sF oF tF gF (false, false) e (by rw [hwish]; exact hw) (FF m') (by rw [List.length_replicate, uF]; omega)]
      rfl
    have hrr : restF (runK1 s (FF (n + m))) = true := by
      rw [hend, rest_free _ rfl rfl]
      obtain ⟨a, b⟩ := noteR_FF (m - 1) (begS sF (false, false) e)
      have hsq : (begS sF (false, false) e).sq = false := rfl
      have hah : (begS sF (false, false) e).ah = none := rfl
      have : wishF (freeS (noteR (begS sF (false, false) e) (FF (m - 1)))) false false = none := by
        unfold wishF freeS
        dsimp only
        rw [a, b, hsq, hah]
        simp
      rw [this]
      rfl
    refine ⟨fin_of N (n + m) s (by omega) hrr ?_, hend, hrr⟩
    · intro j hj
      by_cases hjn : j < n
      · exact hnot j hjn
      · obtain ⟨i, rfl⟩ : ∃ i, j = n + i := ⟨j - n, by omega⟩
        rw [hspl]
        cases i with
        | zero =>
          show restF sF = false
          rw [rest_free sF tF gF, hwish, hw]
          rfl
        | succ i =>
          rw [hFF, (run_elem sF oF tF gF (false, false) e (by rw [hwish]; exact hw) (FF i) (by rw [List.length_replicate, uF]; omega)).1]
          apply rest_not
          have t2 := noteR_tg (FF i) (begS sF (false, false) e)
          show 0 < max 0 ((noteR (begS sF (false, false) e) (FF i)).tl - (((FF i).length : Int) + 1)) + min (noteR (begS sF (false, false) e) (FF i)).gl ((noteR (begS sF (false, false) e) (FF i)).tl + (noteR (begS sF (false, false) e) (FF i)).gl - (((FF i).length : Int) + 1))
          rw [t2.1, t2.2.1, List.length_replicate]
          have a1 : (begS sF (false, false) e).tl = tnL sF.u sF.w e := rfl
          have a2 : (begS sF (false, false) e).gl = sF.u - sF.w := rfl
          have de := dL_eq sF.u sF.w e
          have tp := tnL_pos oF.u1 oF.w1 e
          have w2 := oF.w2
          rw [a1, a2]
          rw [uF] at de w2 tp ⊢
          omega
theorem end_rows (s : Kst) (o : s.Ok) (hl : s.tl + s.gl ≤ 300) : restF (fin 400 s).1 = true ∧ (fin 400 s).1.rows = s.rows ++ (match wishF s false false with
    | none => []
    | some e => [(s.ck + (s.tl + s.gl), e)]) := by
  have h0 := o.t0
  have h1 := o.g0
  obtain ⟨f1, f2⟩ := fin_eq s o 400 (s.tl + s.gl).toNat (by omega) (by omega)
  have tg := noteR_tg (FF (s.tl + s.gl).toNat) s
  cases hw : wishF s false false with
  | none =>
    obtain ⟨e1, e2⟩ := f1 hw
    rw [e1]
    refine ⟨e2, ?_⟩
    show (noteR s (FF (s.tl + s.gl).toNat)).rows = s.rows ++ []
    rw [tg.2.2.2.2.2.2.1, List.append_nil]
  | some e =>
    obtain ⟨m, _, e1, e2, e3⟩ := f2 e hw
    rw [e1]
    refine ⟨e3, ?_⟩
    show (runK1 s (FF ((s.tl + s.gl).toNat + m))).rows = _
    rw [e2]
    show (noteR (begS (freeS (noteR s (FF (s.tl + s.gl).toNat))) (false, false) e) (FF (m - 1))).rows = _
    rw [(noteR_tg _ _).2.2.2.2.2.2.1]
    show (noteR s (FF (s.tl + s.gl).toNat)).rows ++ [((noteR s (FF (s.tl + s.gl).toNat)).ck, e)] = _
    rw [tg.2.2.2.2.2.2.1, tg.2.2.2.2.2.2.2, List.length_replicate]
    have : s.ck + ((s.tl + s.gl).toNat : Int) = s.ck + (s.tl + s.gl) := by omega
    rw [this]
end Tk

namespace Tk
open PySem L2 Dn
variable [Tabl]
/-! ### hands played -/
theorem are_keys_eq (k : Keys) : dn_are_keys [kyD k] = .ok (.bool true) := by
  have l : lcL (gN 1) dYes ce_are_keys_1 [.sh (kyD k), .no] [.bool k.1, .bool k.2] = .ok [.bool true, .bool true] := by
    unfold lcL lcL lcL ce_are_keys_1
    simp [isBoolD]
  unfold dn_are_keys runB sNx bd_are_keys
  unfold kyD at l ⊢
  simp [isTupD, asT, dLc, free, wipeE, l, chk, szN_eq, allD, asBools]
theorem need_hand_ok (h : List Keys) (hl : h.length ≤ 600) : dn_need_hand [haD h] = .ok .none := by
  have l : lcL (gN 1) dYes ce_need_hand_1 [.sh (haD h), .no] (h.map kyD) = .ok (h.map fun _ => .bool true) :=
    lcL_map kyD _ (fun k => ⟨[.sh (haD h), .sh (kyD k)], rfl, by
      unfold ce_need_hand_1
      simp [are_keys_eq]⟩) h
  have a : allD [.list (h.map fun _ => .bool true)] = .ok (.bool true) := by
    rw [allD_of (fun _ => true) h]
    simp
  have g : ¬ (600 : Int) < (h.length : Int) := by omega
  have ck := chk_ok (h.map fun _ => PyData.bool true) (by rw [List.length_map, szN_eq]; omega)
  unfold dn_need_hand runB bd_need_hand
  unfold haD at l ⊢
  generalize hm : h.map kyD = H at l ⊢
  have hL : H.length = h.length := by rw [← hm, List.length_map]
  simp [isListD, cv_MOST_HAND, hL, g, asL, dLc, free, wipeE, l, ck, a]
theorem look_at_ok (m : Mn) {u w : Int} (hs : SpOk u w) (h : List Keys) (hl : h.length ≤ 600) : dn_look_at [mnD m, spD u w, haD h] = .ok .none := by
  unfold dn_look_at runB bd_look_at
  simp [need_manner_ok, need_speed_ok hs, need_hand_ok h hl]
theorem rows_le (s : Kst) (l r : Bool) : (stepF s l r).rows.length ≤ s.rows.length + 1 := by
  have hb : (stepB s l r).rows.length ≤ s.rows.length + 1 := by
    unfold stepB
    dsimp only
    split
    · exact Nat.le_succ _
    · unfold beginF
      split
      · exact Nat.le_succ _
      · simp
  unfold stepF
  split <;> exact hb
theorem rowsR_le : ∀ (h : List Keys) (s : Kst), (runK1 s h).rows.length ≤ s.rows.length + h.length
  | [], s => Nat.le_refl _
  | k :: r, s => by
    have h1 := rowsR_le r (stepF s k.1 k.2)
    have h2 := rows_le s k.1 k.2
    show (runK1 (stepF s k.1 k.2) r).rows.length ≤ _
    rw [List.length_cons]
    omega
theorem keyed_lc (x0 x1 x2 x4 : SV) : ∀ (h : List Keys) (s : Kst), s.rows.length + h.length ≤ 100000 → lcLE (gT 2 (gCn (gN 5) (gCn (gN 6) gNl))) ce_keyed_1 [5, 6] (h.map kyD) [x0, x1, x2, .ob false "Keyer" nm_Keyer (kO s), x4, .no, .no] = .ok ((tonesK s h).map .bool, [x0, x1, x2, .ob false "Keyer" nm_Keyer (kO (runK1 s h)), x4, .no, .no])
  | [], s, _ => rfl
  | k :: r, s, hl => by
    rw [List.length_cons] at hl
    have h1 := rows_le s k.1 k.2
    have ih := keyed_lc x0 x1 x2 x4 r (stepF s k.1 k.2) (by omega)
    have st := step_eq s k.1 k.2 (by omega)
    show lcLE _ _ _ (kyD k :: r.map kyD) _ = .ok (.bool (toneF s k.1 k.2) :: (tonesK (stepF s k.1 k.2) r).map .bool, [x0, x1, x2, .ob false "Keyer" nm_Keyer (kO (runK1 (stepF s k.1 k.2) r)), x4, .no, .no])
    unfold lcLE
    unfold ce_keyed_1 kyD at *
    simp [st, free, wipeE, ih]
theorem keyed_while (x0 x1 x2 x5 x6 : SV) : ∀ (n f : Nat) (s : Kst) (acc : List PD), restF (fin n s).1 = true → s.rows.length + n ≤ 100000 → acc.length + n ≤ 100000 → loopWE lt_keyed_3 lp_keyed_2 (n + f + 1) [x0, x1, x2, .ob false "Keyer" nm_Keyer (kO s), .ol acc, x5, x6] = .ok (.nx [x0, x1, x2, .ob false "Keyer" nm_Keyer (kO (fin n s).1), .ol (acc ++ (fin n s).2.map .bool), x5, x6])
  | 0, f, s, acc, h, _, _ => by
    have re := rest_eq s
    have h : restF s = true := h
    rw [h] at re
    unfold loopWE lt_keyed_3
    simp [re, fin]
  | n + 1, f, s, acc, h, hr, ha => by
    have re := rest_eq s
    unfold fin at h ⊢
    cases hs : restF s with
    | true =>
      rw [hs] at re
      unfold loopWE lt_keyed_3
      simp [re]
    | false =>
      rw [hs] at re h
      rw [if_neg (by decide)] at h ⊢
      have h1 := rows_le s false false
      have st := step_eq s false false (by omega)
      have ih := keyed_while x0 x1 x2 x5 x6 n f (stepF s false false) (acc ++ [.bool (toneF s false false)]) h (by omega) (by rw [List.length_append, List.length_cons, List.length_nil]; omega)
      rw [show n + 1 + f + 1 = (n + f + 1) + 1 by omega]
      unfold loopWE
      have e1 : lt_keyed_3 [x0, x1, x2, .ob false "Keyer" nm_Keyer (kO s), .ol acc, x5, x6] = .ok (true, [x0, x1, x2, .ob false "Keyer" nm_Keyer (kO s), .ol acc, x5, x6]) := by
        unfold lt_keyed_3
        simp [re]
      have e2 : lp_keyed_2 [x0, x1, x2, .ob false "Keyer" nm_Keyer (kO s), .ol acc, x5, x6] = .ok (.nx [x0, x1, x2, .ob false "Keyer" nm_Keyer (kO (stepF s false false)), .ol (acc ++ [.bool (toneF s false false)]), x5, x6]) := by
        unfold lp_keyed_2
        simp [st, szN_eq, show acc.length ≤ 999999 by omega]
      rw [e1]
      simp only [R.bind_ok]
      rw [e2]
      simp only [R.bind_ok]
      rw [ih, List.map_cons, List.append_assoc]
      rfl
theorem runK_pr {N i : Nat} {c : Str} {ns : List Str} {f : En → R Fl} {ds : List PD} {d : PD} {e : En} {b : Bool} {o : List FV} (h : f (ds.map SV.sh ++ List.replicate (N - ds.length) SV.no) = .ok (.pr i d e)) (he : e[i]? = some (.ob b c ns o)) : runK N c ns f ds = .ok d o := by
  unfold runK
  rw [h]
  dsimp only
  unfold atOb
  rw [he]
  dsimp only
  rw [if_pos ⟨rfl, rfl⟩]
theorem keyed_eq (m : Mn) {u w : Int} (hs : SpOk u w) (h : List Keys) (hl : h.length ≤ 10000) (hr : restF (fin 400 (runK1 (initK m u w) h)).1 = true) : dn_keyed [mnD m, spD u w, haD h] = .ok (.list ((tonesK (initK m u w) h ++ (fin 400 (runK1 (initK m u w) h)).2).map .bool)) (kO (fin 400 (runK1 (initK m u w) h)).1) := by
  have hi := init_eq m u w hs
  have lc := keyed_lc (.sh (mnD m)) (.sh (spD u w)) (.sh (haD h)) .no h (initK m u w) (by show 0 + h.length ≤ 100000; omega)
  have rl := rowsR_le h (initK m u w)
  have rl : (runK1 (initK m u w) h).rows.length ≤ 10000 := by
    have : (initK m u w).rows.length = 0 := rfl
    omega
  have tl := tonesK_len h (initK m u w)
  have ck := chk_ok ((tonesK (initK m u w) h).map PyData.bool) (by rw [List.length_map, tl, szN_eq]; omega)
  generalize runK1 (initK m u w) h = s1 at *
  generalize tonesK (initK m u w) h = ts at *
  have lw := keyed_while (.sh (mnD m)) (.sh (spD u w)) (.sh (haD h)) .no .no 400 99599 s1 (ts.map .bool) hr (by omega) (by rw [List.length_map]; omega)
  rw [← List.map_append] at lw
  refine runK_pr (b := false) (i := 3) (e := [.sh (mnD m), .sh (spD u w), .sh (haD h), .ob false "Keyer" nm_Keyer (kO (fin 400 s1).1), .sh (.list ((ts ++ (fin 400 s1).2).map .bool)), .no, .no]) ?_ rfl
  show bd_keyed [.sh (mnD m), .sh (spD u w), .sh (haD h), .no, .no, .no, .no] = _
  unfold bd_keyed
  unfold haD at *
  simp [-List.map_append, hi, asL, dLcE, free, wipeE, lc, ck, backE, sWhileE, lw, sShare]
end Tk

namespace Tk
open PySem L2 Dn
variable [Tabl]
def elC (e : Bool) : Nat := if e then 46 else 45
theorem elL_some (e : Bool) : elL (some e) = [elC e] := by cases e <;> rfl
theorem jn_nil2 : ∀ l : List Nat, jn [] (l.map fun c => [c]) = l
  | [] => rfl
  | [_] => rfl
  | a :: b :: r => by
    have ih := jn_nil2 (b :: r)
    simp only [List.map_cons] at ih ⊢
    unfold jn
    rw [ih]
    rfl
theorem fin_rows : ∀ (n : Nat) (s : Kst), (fin n s).1.rows.length ≤ s.rows.length + n
  | 0, s => Nat.le_refl _
  | n + 1, s => by
    unfold fin
    split
    · exact Nat.le_add_right _ _
    · have h1 := fin_rows n (stepF s false false)
      have h2 := rows_le s false false
      show (fin n (stepF s false false)).1.rows.length ≤ _
      omega
theorem all_made_eq (m : Mn) {u w : Int} (hs : SpOk u w) (h : List Keys) (hl : h.length ≤ 600) (hr : restF (fin 400 (runK1 (initK m u w) h)).1 = true) : dn_all_made [mnD m, spD u w, haD h] = .ok (.str (st ((fin 400 (runK1 (initK m u w) h)).1.rows.map fun p => elC p.2))) := by
  have ke := keyed_eq m hs h (by omega) hr
  have la := look_at_ok m hs h hl
  have rl := rowsR_le h (initK m u w)
  have rl2 := fin_rows 400 (runK1 (initK m u w) h)
  have r0 : (initK m u w).rows.length = 0 := rfl
  generalize (fin 400 (runK1 (initK m u w) h)).1 = s at *
  have ma := made_eq s (by omega)
  have lc : lcL (gT 2 (gCn (gN 3) (gCn (gN 4) gNl))) dYes ce_all_made_1 [.sh (mnD m), .sh (spD u w), .sh (haD h), .no, .no] (s.rows.map rwD) = .ok (s.rows.map fun p => elD (some p.2)) :=
    lcL_map rwD _ (fun p => ⟨[.sh (mnD m), .sh (spD u w), .sh (haD h), .sh (.int p.1), .sh (elD (some p.2))], by simp [rwD], by unfold ce_all_made_1; simp⟩) s.rows
  have ck := chk_ok (s.rows.map fun p => elD (some p.2)) (by rw [List.length_map, szN_eq]; omega)
  have hsum : ((s.rows.map fun p => (elL (some p.2)).length)).sum ≤ s.rows.length := by
    generalize s.rows = R
    induction R with
    | nil => simp
    | cons a r ih =>
      simp only [List.map_cons, List.sum_cons, List.length_cons, elL_some, List.length_nil] at ih ⊢
      omega
  have j := joinD_st [] (fun p : Int × Bool => elL (some p.2)) s.rows (by
    rw [szN_eq]
    simp only [List.length_nil]
    omega)
  have jj : jn [] (s.rows.map fun p => elL (some p.2)) = s.rows.map fun p => elC p.2 := by
    have := jn_nil2 (s.rows.map fun p => elC p.2)
    rw [List.map_map] at this
    rw [← this]
    congr 1
    apply List.map_congr_left
    intro p _
    exact elL_some p.2
  rw [jj] at j
  have j2 : joinD (elD none) (.list (s.rows.map fun p => elD (some p.2))) = .ok (.str (st (s.rows.map fun p => elC p.2))) := j
  unfold dn_all_made runB bd_all_made
  simp [la, ke, ma, asL, dLc, free, wipeE, lc, ck, c_no, j2]
end Tk

namespace Tk
open PySem L2 Dn
variable [Tabl]
theorem initOk (m : Mn) {u w : Int} (h : SpOk u w) : (initK m u w).Ok := by
  obtain ⟨h1, h2, h3, h4⟩ := h
  exact ⟨Int.le_refl 0, Int.le_refl 0, h1, h2, h3, h4⟩
theorem ha_len (n : Nat) (k : Keys) : haD (List.replicate n k) = .list (List.replicate n (kyD k)) := by
  unfold haD
  rw [List.map_replicate]
theorem rep_one (n : Nat) (d : PD) : (List.replicate n [d]).flatten = List.replicate n d := by
  induction n with
  | zero => rfl
  | succ n ih => rw [List.replicate_succ, List.flatten_cons, ih]; rfl
theorem ne_str (z : Str) : neD (.str z) (.str z) = .ok (.bool false) := by simp [neD, sc2]
end Tk

namespace Tk
open PySem L2 Dn
variable [Tabl]
/-! ### a keyer at rest; keys tapped -/
theorem step_none (s : Kst) (ht : s.tl = 0) (hg : s.gl = 0) (k : Keys) (hw : wishF s k.1 k.2 = none) : stepF s k.1 k.2 = { s with el := none, ah := none, sq := k.1 && k.2, hl := k.1, hr := k.2, ck := s.ck + 1 } ∧ toneF s k.1 k.2 = false := by
  have h : ¬ s.tl + s.gl > 0 := by omega
  have e1 : stepB s k.1 k.2 = { s with el := none, ah := none, sq := k.1 && k.2, hl := k.1, hr := k.2, ck := s.ck + 1 } := by
    unfold stepB
    rw [if_neg h]
    unfold beginF
    rw [hw]
  unfold stepF toneF
  rw [e1]
  dsimp only
  have hp : ¬ s.tl > 0 := by omega
  rw [if_neg hp]
  refine ⟨?_, decide_eq_false hp⟩
  have : max 0 (s.gl - 1) = s.gl := by omega
  rw [this]
/-- free, nothing kept -/
structure Idle (s : Kst) : Prop where
  tl : s.tl = 0
  gl : s.gl = 0
  ah : s.ah = none
  sq : s.sq = false
theorem Idle.wish {s : Kst} (h : Idle s) : wishF s false false = none := by
  unfold wishF
  rw [h.ah, h.sq]
  simp
theorem idle_run : ∀ (n : Nat) (s : Kst), Idle s → Idle (runK1 s (FF n)) ∧ (runK1 s (FF n)).rows = s.rows ∧ (runK1 s (FF n)).ck = s.ck + n ∧ (runK1 s (FF n)).mn = s.mn ∧ (runK1 s (FF n)).u = s.u ∧ (runK1 s (FF n)).w = s.w ∧ (n = 0 ∨ ((runK1 s (FF n)).el = none))
  | 0, s, h => ⟨h, rfl, by simp [runK1], rfl, rfl, rfl, .inl rfl⟩
  | n + 1, s, h => by
    have e := (step_none s h.tl h.gl (false, false) h.wish).1
    have i : Idle { s with el := none, ah := none, sq := false, hl := false, hr := false, ck := s.ck + 1 } := ⟨h.tl, h.gl, rfl, rfl⟩
    have rr : runK1 s (FF (n + 1)) = runK1 { s with el := none, ah := none, sq := false, hl := false, hr := false, ck := s.ck + 1 } (FF n) := by
      show runK1 (stepF s false false) (FF n) = _
      rw [e]
      rfl
    obtain ⟨a1, a2, a3, a4, a5, a6, a7⟩ := idle_run n _ i
    rw [rr]
    refine ⟨a1, a2, ?_, a4, a5, a6, .inr ?_⟩
    · rw [a3]
      show s.ck + 1 + (n : Int) = s.ck + ((n + 1 : Nat) : Int)
      omega
    · rcases a7 with a7 | a7
      · subst a7; rfl
      · exact a7
theorem rest_idle {s : Kst} (o : s.Ok) (h : restF s = true) : wishF s false false = none ∧ s.tl = 0 ∧ s.gl = 0 := by
  unfold restF at h
  rw [Bool.and_eq_true] at h
  have h1 := of_decide_eq_true h.1
  have h2 := o.t0
  have h3 := o.g0
  refine ⟨?_, by omega, by omega⟩
  cases e : wishF s false false with
  | none => rfl
  | some b => rw [e] at h; cases h.2
theorem rest_rows {s : Kst} (o : s.Ok) (h : restF s = true) : ∀ n, (runK1 s (FF n)).rows = s.rows
  | 0 => rfl
  | n + 1 => by
    obtain ⟨h1, h2, h3⟩ := rest_idle o h
    have e := (step_none s h2 h3 (false, false) h1).1
    have i : Idle { s with el := none, ah := none, sq := false, hl := false, hr := false, ck := s.ck + 1 } := ⟨h2, h3, rfl, rfl⟩
    show (runK1 (stepF s false false) (FF n)).rows = _
    rw [e]
    exact (idle_run n _ i).2.1
theorem ok_free {s : Kst} (o : s.Ok) : (freeS s).Ok := ⟨Int.le_refl 0, Int.le_refl 0, o.u1, o.u9, o.w1, o.w2⟩
theorem ok_noteR {s : Kst} (o : s.Ok) (hs : List Keys) : (noteR s hs).Ok := by
  obtain ⟨a1, a2, a3, a4, _⟩ := noteR_tg hs s
  exact ⟨by rw [a1]; exact o.t0, by rw [a2]; exact o.g0, by rw [a3]; exact o.u1, by rw [a3]; exact o.u9, by rw [a3, a4]; exact o.w1, by rw [a3, a4]; exact o.w2⟩
theorem ok_beg {s : Kst} (o : s.Ok) (k : Keys) (e : Bool) : (begS s k e).Ok := by
  have tp := tnL_pos o.u1 o.w1 e
  have w2 := o.w2
  exact ⟨by show 0 ≤ tnL s.u s.w e; omega, by show 0 ≤ s.u - s.w; omega, o.u1, o.u9, o.w1, o.w2⟩
/-- all that comes of keys let go -/
theorem ff_rows (s : Kst) (o : s.Ok) (N : Nat) (hN : s.tl + s.gl + 4 * s.u ≤ N) : (runK1 s (FF N)).rows = s.rows ++ (match wishF s false false with
    | none => []
    | some e => [(s.ck + (s.tl + s.gl), e)]) := by
  have h0 := o.t0
  have h1 := o.g0
  obtain ⟨f1, f2⟩ := fin_eq s o ((s.tl + s.gl).toNat + 40) (s.tl + s.gl).toNat (by omega) (Nat.le_refl _)
  have tg := noteR_tg (FF (s.tl + s.gl).toNat) s
  generalize hn : (s.tl + s.gl).toNat = n at *
  have hrun : runK1 s (FF n) = freeS (noteR s (FF n)) := by
    have := (run_note (FF n) s o.t0 o.g0 (by rw [List.length_replicate]; omega)).1
    rw [List.length_replicate] at this
    rw [this, cut_full]
    · rw [tg.1]; exact o.t0
    · rw [tg.2.1]; exact o.g0
    · rw [tg.1, tg.2.1]; omega
  cases hw : wishF s false false with
  | none =>
    obtain ⟨_, e2⟩ := f1 hw
    have := o.u1
    obtain ⟨M, rfl⟩ : ∃ M, N = n + M := ⟨N - n, by omega⟩
    rw [show FF (n + M) = FF n ++ FF M from (List.replicate_append_replicate ..).symm, runK1_app, hrun, rest_rows (ok_free (ok_noteR o _)) e2]
    show (noteR s (FF n)).rows = s.rows ++ []
    rw [tg.2.2.2.2.2.2.1, List.append_nil]
  | some e =>
    obtain ⟨m, hm, _, e2, e3⟩ := f2 e hw
    have hd : dL s.u e ≤ 4 * s.u := by
      have := o.u1
      unfold dL
      cases e <;> simp <;> omega
    obtain ⟨M, rfl⟩ : ∃ M, N = (n + m) + M := ⟨N - (n + m), by omega⟩
    rw [show FF ((n + m) + M) = FF (n + m) ++ FF M from (List.replicate_append_replicate ..).symm, runK1_app]
    rw [e2] at e3 ⊢
    rw [rest_rows (ok_free (ok_noteR (ok_beg (ok_free (ok_noteR o _)) _ _) _)) e3]
    show (noteR (begS (freeS (noteR s (FF n))) (false, false) e) (FF (m - 1))).rows = _
    rw [(noteR_tg _ _).2.2.2.2.2.2.1]
    show (noteR s (FF n)).rows ++ [((noteR s (FF n)).ck, e)] = _
    rw [tg.2.2.2.2.2.2.1, tg.2.2.2.2.2.2.2, List.length_replicate]
    have : s.ck + (n : Int) = s.ck + (s.tl + s.gl) := by omega
    rw [this]
theorem ff_none (s : Kst) (o : s.Ok) (h : wishF s false false = none) (N : Nat) : (runK1 s (FF N)).rows = s.rows := by
  by_cases hN : (N : Int) ≤ s.tl + s.gl
  · rw [(run_note (FF N) s o.t0 o.g0 (by rw [List.length_replicate]; exact hN)).1]
    exact (noteR_tg (FF N) s).2.2.2.2.2.2.1
  · have h0 := o.t0
    have h1 := o.g0
    have u1 := o.u1
    have e := ff_rows s o (N + (4 * s.u).toNat) (by omega)
    rw [h, List.append_nil] at e
    -- rows only grow
    have grow : ∀ (a : List Keys) (q : Kst), ∃ r, (runK1 q a).rows = q.rows ++ r := fun a => by
      induction a with
      | nil => exact fun q => ⟨[], (List.append_nil _).symm⟩
      | cons k r ih =>
        intro q
        obtain ⟨x, hx⟩ := ih (stepF q k.1 k.2)
        have hb : ∃ y, (stepF q k.1 k.2).rows = q.rows ++ y := by
          have : ∃ y, (stepB q k.1 k.2).rows = q.rows ++ y := by
            unfold stepB
            dsimp only
            split
            · exact ⟨[], (List.append_nil _).symm⟩
            · unfold beginF
              split
              · exact ⟨[], (List.append_nil _).symm⟩
              · exact ⟨_, rfl⟩
          unfold stepF
          split <;> exact this
        obtain ⟨y, hy⟩ := hb
        exact ⟨y ++ x, by show (runK1 (stepF q k.1 k.2) r).rows = _; rw [hx, hy, List.append_assoc]⟩
    rw [show FF (N + (4 * s.u).toNat) = FF N ++ FF (4 * s.u).toNat from (List.replicate_append_replicate ..).symm, runK1_app] at e
    obtain ⟨x, hx⟩ := grow (FF (4 * s.u).toNat) (runK1 s (FF N))
    obtain ⟨y, hy⟩ := grow (FF N) s
    rw [hx, hy, List.append_assoc] at e
    have : y ++ x = [] := by
      have := congrArg List.length e
      rw [List.length_append] at this
      exact List.eq_nil_of_length_eq_zero (by omega)
    rw [hy, (List.append_eq_nil_iff.mp this).1, List.append_nil]
/-- the key of an element alone -/
abbrev Kk (e : Bool) : Keys := (e, !e)
theorem wish_Kk (s : Kst) (e : Bool) (h : s.ah = none) : wishF s (Kk e).1 (Kk e).2 = some e := by
  unfold wishF Kk
  rw [h]
  cases e <;> simp
/-- the other key is not held -/
def offO (s : Kst) (e : Bool) : Prop := if e then s.hr = false else s.hl = false
theorem press_one (s : Kst) (e : Bool) (h : s.el = some e) (hp : s.mn.isP = false) (ho : offO s e) : noteN s (Kk (!e)) = { s with ah := some (!e), hl := !e, hr := e, ck := s.ck + 1 } := by
  unfold noteN noteF pressed
  unfold offO at ho
  rw [h, hp]
  cases e
  · simp at ho
    simp [isDot, oth, ho]
  · simp at ho
    simp [isDot, oth, ho]
theorem press_plain (s : Kst) (k : Keys) (hp : s.mn.isP = true) : noteN s k = { s with sq := s.sq || (k.1 && k.2), hl := k.1, hr := k.2, ck := s.ck + 1 } := by
  unfold noteN noteF
  rw [hp]
  simp
theorem noteR_FF2 : ∀ (n : Nat) (s : Kst) (e : Bool), offO s e → offO (noteR s (FF n)) e
  | 0, s, e, h => h
  | n + 1, s, e, h => by
    show offO (noteR (noteN s (false, false)) (FF n)) e
    apply noteR_FF2 n
    rw [note_FF]
    unfold offO
    cases e <;> rfl
theorem noteR_app (a b : List Keys) (s : Kst) : noteR s (a ++ b) = noteR (noteR s a) b := by
  unfold noteR
  rw [List.foldl_append]
/-! ### tapped -/
theorem note_same (s : Kst) (e : Bool) (h : s.el = some e) : noteN s (Kk e) = { s with hl := e, hr := !e, ck := s.ck + 1 } := by
  unfold noteN noteF pressed
  rw [h]
  cases e <;> simp [isDot]
theorem noteR_same (e : Bool) : ∀ (n : Nat) (s : Kst), s.el = some e → (noteR s (List.replicate n (Kk e))).ah = s.ah ∧ (noteR s (List.replicate n (Kk e))).sq = s.sq
  | 0, s, _ => ⟨rfl, rfl⟩
  | n + 1, s, h => by
    have e1 : noteR s (List.replicate (n + 1) (Kk e)) = noteR (noteN s (Kk e)) (List.replicate n (Kk e)) := rfl
    rw [e1, note_same s e h]
    exact noteR_same e n _ h
theorem off_beg (m : Mn) (u w : Int) (e : Bool) : offO (begS (initK m u w) (Kk e) e) e := by
  unfold offO begS Kk
  cases e <;> rfl
section
variable {m : Mn} {u w : Int} (hs : SpOk u w) (e : Bool) (d : Nat) (hd : (d : Int) = dL u e)
include hs hd
theorem d_ge : 2 ≤ d := by
  have := (dL_b hs.u1 hs.u9 e).1
  omega
/-- what comes of keys tapped within the element -/
theorem taps_in (hk : List Keys) (hl : hk.length + 1 = d) (x : Option Bool) (ha : (noteR (begS (initK m u w) (Kk e) e) hk).ah = x) (hq : (noteR (begS (initK m u w) (Kk e) e) hk).sq = false) (N : Nat) (hN : 4 * u ≤ N) :
    (runK1 (initK m u w) (Kk e :: (hk ++ FF N))).rows = (0, e) :: (match x with
      | none => []
      | some b => [((d : Int), b)]) := by
  have o := initOk m hs
  have rw1 := run_whole (initK m u w) o rfl rfl (Kk e) e (wish_Kk _ e rfl) hk (by show (hk.length : Int) + 1 = dL u e; omega)
  have tg := noteR_tg hk (begS (initK m u w) (Kk e) e)
  have ok1 : (freeS (noteR (begS (initK m u w) (Kk e) e) hk)).Ok := ok_free (ok_noteR (ok_beg o _ _) _)
  have r1 : (freeS (noteR (begS (initK m u w) (Kk e) e) hk)).rows = [(0, e)] := tg.2.2.2.2.2.2.1
  have c1 : (freeS (noteR (begS (initK m u w) (Kk e) e) hk)).ck = (d : Int) := by
    show (noteR (begS (initK m u w) (Kk e) e) hk).ck = _
    rw [tg.2.2.2.2.2.2.2]
    show (0 : Int) + 1 + (hk.length : Int) = _
    omega
  have u1 : (freeS (noteR (begS (initK m u w) (Kk e) e) hk)).u = u := tg.2.2.1
  rw [show Kk e :: (hk ++ FF N) = (Kk e :: hk) ++ FF N from rfl, runK1_app, rw1, ff_rows _ ok1 N (by rw [u1]; show (0 : Int) + 0 + 4 * u ≤ N; omega), r1, c1]
  have wf : wishF (freeS (noteR (begS (initK m u w) (Kk e) e) hk)) false false = x := by
    unfold wishF freeS
    dsimp only
    rw [ha, hq]
    cases x <;> simp
  rw [wf]
  cases x with
  | none => rfl
  | some b =>
    show [((0 : Int), e)] ++ [((d : Int) + (0 + 0), b)] = _
    rw [show (d : Int) + (0 + 0) = (d : Int) by omega]
    rfl
theorem tap_early (t : Nat) (h1 : 1 ≤ t) (h2 : t < d) (N : Nat) (hN : 4 * u ≤ N) : (runK1 (initK m u w) (Kk e :: ((FF (t - 1) ++ Kk (!e) :: FF (d - 1 - t)) ++ FF N))).rows = (0, e) :: (if m.isP then [] else [((d : Int), !e)]) := by
  have off := noteR_FF2 (t - 1) _ e (off_beg m u w e)
  have tg := noteR_tg (FF (t - 1)) (begS (initK m u w) (Kk e) e)
  obtain ⟨f1, f2⟩ := noteR_FF (t - 1) (begS (initK m u w) (Kk e) e)
  have hl : (FF (t - 1) ++ Kk (!e) :: FF (d - 1 - t)).length + 1 = d := by
    rw [List.length_append, List.length_cons, List.length_replicate, List.length_replicate]
    omega
  have a : (begS (initK m u w) (Kk e) e).ah = none := rfl
  have q : (begS (initK m u w) (Kk e) e).sq = false := by
    show (e && !e) = false
    cases e <;> rfl
  have mm : (noteR (begS (initK m u w) (Kk e) e) (FF (t - 1))).mn = m := tg.2.2.2.2.1
  have ee : (noteR (begS (initK m u w) (Kk e) e) (FF (t - 1))).el = some e := tg.2.2.2.2.2.1
  have nr : noteR (begS (initK m u w) (Kk e) e) (FF (t - 1) ++ Kk (!e) :: FF (d - 1 - t)) = noteR (noteN (noteR (begS (initK m u w) (Kk e) e) (FF (t - 1))) (Kk (!e))) (FF (d - 1 - t)) := by
    rw [noteR_app]
    rfl
  cases hp : m.isP with
  | true =>
    rw [taps_in hs e d hd _ hl none ?_ ?_ N hN]
    · rfl
    · rw [nr, (noteR_FF _ _).1, press_plain _ _ (by rw [mm]; exact hp)]
      show (noteR (begS (initK m u w) (Kk e) e) (FF (t - 1))).ah = none
      rw [f1, a]
    · rw [nr, (noteR_FF _ _).2, press_plain _ _ (by rw [mm]; exact hp)]
      show ((noteR (begS (initK m u w) (Kk e) e) (FF (t - 1))).sq || ((!e) && !(!e))) = false
      rw [f2, q]
      cases e <;> rfl
  | false =>
    rw [taps_in hs e d hd _ hl (some (!e)) ?_ ?_ N hN]
    · rfl
    · rw [nr, (noteR_FF _ _).1, press_one _ e ee (by rw [mm]; exact hp) off]
    · rw [nr, (noteR_FF _ _).2, press_one _ e ee (by rw [mm]; exact hp) off]
      show (noteR (begS (initK m u w) (Kk e) e) (FF (t - 1))).sq = false
      rw [f2, q]
theorem tap_twice (h2 : 4 ≤ d) (hp : m.isP = false) (N : Nat) (hN : 4 * u ≤ N) : (runK1 (initK m u w) (Kk e :: ((Kk (!e) :: (false, false) :: Kk (!e) :: FF (d - 4)) ++ FF N))).rows = [(0, e), ((d : Int), !e)] := by
  have off := off_beg m u w e
  have p1 := press_one (begS (initK m u w) (Kk e) e) e rfl hp off
  have hl : (Kk (!e) :: (false, false) :: Kk (!e) :: FF (d - 4)).length + 1 = d := by
    simp only [List.length_cons, List.length_replicate]
    omega
  have q : (begS (initK m u w) (Kk e) e).sq = false := by
    show (e && !e) = false
    cases e <;> rfl
  have nr : noteR (begS (initK m u w) (Kk e) e) (Kk (!e) :: (false, false) :: Kk (!e) :: FF (d - 4)) = noteR (noteN (noteN (noteN (begS (initK m u w) (Kk e) e) (Kk (!e))) (false, false)) (Kk (!e))) (FF (d - 4)) := rfl
  have p2 : noteN (noteN (noteN (begS (initK m u w) (Kk e) e) (Kk (!e))) (false, false)) (Kk (!e)) = { begS (initK m u w) (Kk e) e with ah := some (!e), hl := !e, hr := e, ck := (begS (initK m u w) (Kk e) e).ck + 1 + 1 + 1 } := by
    rw [p1, note_FF, press_one _ e rfl hp (by unfold offO; cases e <;> rfl)]
  rw [taps_in hs e d hd _ hl (some (!e)) ?_ ?_ N hN]
  · rw [nr, p2, (noteR_FF _ _).1]
  · rw [nr, p2, (noteR_FF _ _).2]
    exact q
theorem tap_late (t : Nat) (h1 : d ≤ t) (N : Nat) : (runK1 (initK m u w) (Kk e :: (FF (d - 1) ++ (FF (t - d) ++ Kk (!e) :: FF N)))).rows = [(0, e), ((t : Int), !e)] := by
  have dg := d_ge hs e d hd
  have o := initOk m hs
  have rw1 := run_whole (initK m u w) o rfl rfl (Kk e) e (wish_Kk _ e rfl) (FF (d - 1)) (by rw [List.length_replicate]; show ((d - 1 : Nat) : Int) + 1 = dL u e; omega)
  have tg := noteR_tg (FF (d - 1)) (begS (initK m u w) (Kk e) e)
  obtain ⟨f1, f2⟩ := noteR_FF (d - 1) (begS (initK m u w) (Kk e) e)
  have ok1 : (freeS (noteR (begS (initK m u w) (Kk e) e) (FF (d - 1)))).Ok := ok_free (ok_noteR (ok_beg o _ _) _)
  have r1 : (freeS (noteR (begS (initK m u w) (Kk e) e) (FF (d - 1)))).rows = [(0, e)] := tg.2.2.2.2.2.2.1
  have c1 : (freeS (noteR (begS (initK m u w) (Kk e) e) (FF (d - 1)))).ck = (d : Int) := by
    show (noteR (begS (initK m u w) (Kk e) e) (FF (d - 1))).ck = _
    rw [tg.2.2.2.2.2.2.2, List.length_replicate]
    show (0 : Int) + 1 + ((d - 1 : Nat) : Int) = _
    omega
  have i1 : Idle (freeS (noteR (begS (initK m u w) (Kk e) e) (FF (d - 1)))) := ⟨rfl, rfl, by show (noteR _ _).ah = none; rw [f1]; rfl, by show (noteR _ _).sq = false; rw [f2]; show (e && !e) = false; cases e <;> rfl⟩
  rw [show Kk e :: (FF (d - 1) ++ (FF (t - d) ++ Kk (!e) :: FF N)) = (Kk e :: FF (d - 1)) ++ (FF (t - d) ++ Kk (!e) :: FF N) from rfl, runK1_app, rw1, runK1_app]
  obtain ⟨j1, j2, j3, j4, j5, j6, _⟩ := idle_run (t - d) _ i1
  generalize runK1 (freeS (noteR (begS (initK m u w) (Kk e) e) (FF (d - 1)))) (FF (t - d)) = s2 at j1 j2 j3 j4 j5 j6
  have u2 : s2.u = u := j5.trans tg.2.2.1
  have w2' : s2.w = w := j6.trans tg.2.2.2.1
  have o2 : s2.Ok := ⟨by rw [j1.tl]; exact Int.le_refl 0, by rw [j1.gl]; exact Int.le_refl 0, by rw [u2]; exact hs.u1, by rw [u2]; exact hs.u9, by rw [u2, w2']; exact hs.w1, by rw [u2, w2']; exact hs.w2⟩
  have sb := (step_begin s2 o2 j1.tl j1.gl (Kk (!e)) (!e) (wish_Kk s2 (!e) j1.ah)).1
  have o3 : (cutT (begS s2 (Kk (!e)) (!e)) 1).Ok := by
    have tp := tnL_pos o2.u1 o2.w1 (!e)
    have ww := o2.w2
    exact ⟨by show 0 ≤ max 0 (tnL s2.u s2.w (!e) - 1); omega, by show 0 ≤ min (s2.u - s2.w) (tnL s2.u s2.w (!e) + (s2.u - s2.w) - 1); omega, o2.u1, o2.u9, o2.w1, o2.w2⟩
  show (runK1 (stepF s2 (Kk (!e)).1 (Kk (!e)).2) (FF N)).rows = _
  rw [sb, ff_none _ o3 ?_ N]
  · show s2.rows ++ [(s2.ck, !e)] = _
    rw [j2, r1, j3, c1]
    have : (d : Int) + ((t - d : Nat) : Int) = (t : Int) := by omega
    rw [this]
    rfl
  · unfold wishF cutT begS
    dsimp only
    cases e <;> simp
theorem held_made (hp : 1 ≤ d) : restF (fin 400 (runK1 (initK m u w) (List.replicate (d - 1) (Kk e)))).1 = true ∧ (fin 400 (runK1 (initK m u w) (List.replicate (d - 1) (Kk e)))).1.rows = [(0, e)] := by
  have dg := d_ge hs e d hd
  have o := initOk m hs
  obtain ⟨j, rfl⟩ : ∃ j, d = j + 2 := ⟨d - 2, by omega⟩
  have re := (run_elem (initK m u w) o rfl rfl (Kk e) e (wish_Kk _ e rfl) (List.replicate j (Kk e)) (by rw [List.length_replicate]; show (j : Int) + 1 ≤ dL u e; omega)).1
  have tg := noteR_tg (List.replicate j (Kk e)) (begS (initK m u w) (Kk e) e)
  obtain ⟨f1, f2⟩ := noteR_same e j (begS (initK m u w) (Kk e) e) rfl
  have rr : runK1 (initK m u w) (List.replicate (j + 2 - 1) (Kk e)) = runK1 (initK m u w) (Kk e :: List.replicate j (Kk e)) := rfl
  rw [List.length_replicate] at re
  rw [rr, re]
  have tp := tnL_pos hs.u1 hs.w1 e
  have de := dL_eq u w e
  have ww := hs.w2
  have t1 : (noteR (begS (initK m u w) (Kk e) e) (List.replicate j (Kk e))).tl = tnL u w e := tg.1
  have g1 : (noteR (begS (initK m u w) (Kk e) e) (List.replicate j (Kk e))).gl = u - w := tg.2.1
  have oo := ok_noteR (ok_beg o (Kk e) e) (List.replicate j (Kk e))
  have o3 : (cutT (noteR (begS (initK m u w) (Kk e) e) (List.replicate j (Kk e))) ((j : Int) + 1)).Ok := ⟨by show 0 ≤ max 0 (_ - ((j : Int) + 1)); omega, by show 0 ≤ min (noteR (begS (initK m u w) (Kk e) e) (List.replicate j (Kk e))).gl ((noteR (begS (initK m u w) (Kk e) e) (List.replicate j (Kk e))).tl + (noteR (begS (initK m u w) (Kk e) e) (List.replicate j (Kk e))).gl - ((j : Int) + 1)); rw [t1, g1]; omega, oo.u1, oo.u9, oo.w1, oo.w2⟩
  have b := dL_b hs.u1 hs.u9 e
  obtain ⟨e1, e2⟩ := end_rows _ o3 (by show max 0 ((noteR (begS (initK m u w) (Kk e) e) (List.replicate j (Kk e))).tl - ((j : Int) + 1)) + min (noteR (begS (initK m u w) (Kk e) e) (List.replicate j (Kk e))).gl ((noteR (begS (initK m u w) (Kk e) e) (List.replicate j (Kk e))).tl + (noteR (begS (initK m u w) (Kk e) e) (List.replicate j (Kk e))).gl - ((j : Int) + 1)) ≤ 300; rw [t1, g1]; omega)
  refine ⟨e1, ?_⟩
  rw [e2]
  have wf : wishF (cutT (noteR (begS (initK m u w) (Kk e) e) (List.replicate j (Kk e))) ((j : Int) + 1)) false false = none := by
    unfold wishF cutT
    dsimp only
    rw [f1, f2]
    show (if (none : Option Bool).isSome then none else if false && false then _ else if false || false then _ else if _ && (e && !e) then _ else none) = none
    cases e <;> simp
  rw [wf]
  show (noteR (begS (initK m u w) (Kk e) e) (List.replicate j (Kk e))).rows ++ [] = _
  rw [tg.2.2.2.2.2.2.1]
  rfl
end
end Tk

namespace Tk
open PySem L2 Dn
variable [Tabl]
theorem played_eq (m : Mn) {u w : Int} (hs : SpOk u w) (h : List Keys) (hl : h.length ≤ 600) (hr : restF (fin 400 (runK1 (initK m u w) h)).1 = true) : dn_played [mnD m, spD u w, haD h] = .ok (.list ((tonesK (initK m u w) h ++ (fin 400 (runK1 (initK m u w) h)).2).map .bool)) := by
  have ke := keyed_eq m hs h (by omega) hr
  have la := look_at_ok m hs h hl
  generalize kO (fin 400 (runK1 (initK m u w) h)).1 = O at *
  generalize PyData.list ((tonesK (initK m u w) h ++ (fin 400 (runK1 (initK m u w) h)).2).map .bool) = TL at *
  unfold dn_played runB bd_played
  simp [la, ke]
end Tk

namespace Tk
open PySem L2 Dn
section
variable [Tabl]
/-! ### manners, holds, elements -/
def mS : Mn → Str
  | .p => "plain"
  | .a => "a"
  | .b => "b"
theorem mS_plain (m : Mn) : decide (mS m = ("plain" : Str)) = decide (m = .p) := by cases m <;> decide +kernel
theorem mS_b (m : Mn) : decide (mS m = ("b" : Str)) = decide (m = .b) := by cases m <;> decide +kernel
abbrev BB := Bool × Bool
abbrev hD (h : BB) : PD := .tuple [.bool h.1, .bool h.2]
/-- an element or none as a text -/
def oS : Option Nat → Str
  | none => ""
  | some c => ⟨#[c]⟩
theorem oS_inj : ∀ {x y : Option Nat}, oS x = oS y → x = y
  | none, none, _ => rfl
  | none, some c, h => by
    have : (oS none).cps.toList = (oS (some c)).cps.toList := by rw [h]
    have z : ("" : Str).cps.toList = [] := by decide +kernel
    exact absurd this (by show ¬ (("" : Str).cps.toList = [c]); rw [z]; simp)
  | some c, none, h => by
    have : (oS none).cps.toList = (oS (some c)).cps.toList := by rw [h]
    have z : ("" : Str).cps.toList = [] := by decide +kernel
    exact absurd this (by show ¬ (("" : Str).cps.toList = [c]); rw [z]; simp)
  | some c, some d, h => by
    have : (oS (some c)).cps.toList = (oS (some d)).cps.toList := by rw [h]
    simp [oS] at this
    rw [this]
theorem oS_dec (x y : Option Nat) : decide (oS x = oS y) = decide (x = y) := by
  by_cases h : x = y
  · rw [h]; simp
  · rw [decide_eq_false h, decide_eq_false fun e => h (oS_inj e)]
theorem oS_dot : ("." : Str) = oS (some 46) := by decide +kernel
theorem oS_dash : ("-" : Str) = oS (some 45) := by decide +kernel
theorem oS_nil : ("" : Str) = oS none := rfl
theorem oS_bang : ("!" : Str) = oS (some 33) := by decide +kernel
theorem eq_oS (x y : Option Nat) : eqD (.str (oS x)) (.str (oS y)) = .ok (.bool (decide (x = y))) := by rw [eqD_str, oS_dec]
theorem ne_oS (x y : Option Nat) : neD (.str (oS x)) (.str (oS y)) = .ok (.bool (!decide (x = y))) := by rw [neD_str, oS_dec]
theorem eq_mS_p (m : Mn) : eqD (.str (mS m)) (.str "plain") = .ok (.bool (decide (m = .p))) := by rw [eqD_str, mS_plain]
theorem eq_mS_b (m : Mn) : eqD (.str (mS m)) (.str "b") = .ok (.bool (decide (m = .b))) := by rw [eqD_str, mS_b]
theorem eq_hD (h g : BB) : eqD (hD h) (hD g) = .ok (.bool (decide (h = g))) := by
  obtain ⟨a, b⟩ := h
  obtain ⟨c, d⟩ := g
  cases a <;> cases b <;> cases c <;> cases d <;> rfl
theorem ne_hD (h g : BB) : neD (hD h) (hD g) = .ok (.bool (!decide (h = g))) := by
  obtain ⟨a, b⟩ := h
  obtain ⟨c, d⟩ := g
  cases a <;> cases b <;> cases c <;> cases d <;> rfl
def othF (l : Option Nat) : Option Nat := if l = some 46 then some 45 else some 46
def comesF (m : Mn) (b h : BB) (l : Option Nat) : Option Nat := match h with
  | (true, true) => if m = .p ∨ l = none then some 46 else othF l
  | (true, false) => some 46
  | (false, true) => some 45
  | (false, false) => if m = .b ∧ b = (true, true) then othF l else none
def presF (b h : BB) : Int := (if h.1 = true ∧ b.1 = false then 1 else 0) + (if h.2 = true ∧ b.2 = false then 1 else 0)
def hs4 : List BB := [(false, false), (false, true), (true, false), (true, true)]
abbrev Row := List BB
abbrev rowL (r : Row) : List PD := r.map hD
abbrev rowD (r : Row) : PD := .list (r.map hD)
abbrev cr (x : Int × Row) : PD := .tuple [.int x.1, rowD x.2]
abbrev Tb := List (BB × (Int × Row))
abbrev tbD (t : Tb) : List (BB × PD) := t.map fun e => (e.1, cr e.2)
def lkT (t : Tb) (k : BB) : Option (Int × Row) := (t.find? fun e => decide (e.1 = k)).map (·.2)
def putT (t : Tb) (k : BB) (x : Int × Row) : Tb := if (lkT t k).isSome then t.map (fun e => if e.1 = k then (e.1, x) else e) else t ++ [(k, x)]
theorem lkD_tb (k : BB) : ∀ t : Tb, lkD (tbD t) k = (lkT t k).map cr
  | [] => rfl
  | e :: t => by
    have ih := lkD_tb k t
    unfold lkD lkT at ih ⊢
    rw [show tbD (e :: t) = (e.1, cr e.2) :: tbD t from rfl, List.find?_cons, List.find?_cons]
    by_cases h : e.1 = k
    · simp [h]
    · simp [h]
      simpa using ih
theorem putBD_tb (t : Tb) (k : BB) (x : Int × Row) : putBD (tbD t) k (cr x) = tbD (putT t k x) := by
  unfold putBD putT
  rw [lkD_tb, Option.isSome_map]
  split
  · unfold tbD
    rw [List.map_map, List.map_map]
    refine List.map_congr_left fun e _ => ?_
    show (if e.1 = k then (e.1, cr x) else (e.1, cr e.2)) = ((if e.1 = k then (e.1, x) else e).1, cr (if e.1 = k then (e.1, x) else e).2)
    by_cases h : e.1 = k <;> simp [h]
  · simp
/-- x before y, as the program says -/
def lessC (x y : Int × Row) : Bool := lessD (cr x) (cr y)
def one1 (m : Mn) (rows : Tb) (e l : Option Nat) (b h : BB) (later : Tb) : Tb := match lkT rows b with
  | none => later
  | some x => if comesF m b h l = e then (match lkT later h with
      | none => putT later h (x.1 + presF b h, x.2 ++ [h])
      | some y => if lessC (x.1 + presF b h, x.2 ++ [h]) y = true then putT later h (x.1 + presF b h, x.2 ++ [h]) else later)
    else later
def one2 (m : Mn) (rows : Tb) (e l : Option Nat) (b : BB) (later : Tb) : Tb := hs4.foldl (fun t h => one1 m rows e l b h t) later
def one3 (m : Mn) (rows : Tb) (e l : Option Nat) : Tb := hs4.foldl (fun t b => one2 m rows e l b t) []
/-- the table behind all elements, and the last of them -/
def tabF (m : Mn) : List Nat → Option Nat → Tb → Tb × Option Nat
  | [], l, t => (t, l)
  | c :: r, l, t => tabF m r (some c) (one3 m t (some c) l)
def endsF (m : Mn) (t : Tb) (l : Option Nat) : List (Int × Row) := (t.filter fun e => decide (comesF m e.1 (false, false) l = none)).map fun e => (e.2.1, e.2.2 ++ [(false, false)])
def holdsF (m : Mn) (c : List Nat) : List (Int × Row) := let q := tabF m c none [((false, false), (0, []))]; endsF m q.1 q.2
/-- all rows are that long -/
def LenT (n : Nat) (t : Tb) : Prop := ∀ e ∈ t, e.2.2.length = n
theorem lkT_mem {t : Tb} {k : BB} {x : Int × Row} (h : lkT t k = some x) : ∃ e ∈ t, e.2 = x := by
  unfold lkT at h
  cases q : t.find? fun e => decide (e.1 = k) with
  | none => rw [q] at h; cases h
  | some e =>
    rw [q] at h
    exact ⟨e, List.mem_of_find?_eq_some q, Option.some.inj h⟩
theorem LenT.put {n : Nat} {t : Tb} {k : BB} {x : Int × Row} (h : LenT n t) (hx : x.2.length = n) : LenT n (putT t k x) := by
  unfold putT
  split
  · intro e he
    obtain ⟨e', h1, rfl⟩ := List.mem_map.mp he
    by_cases z : e'.1 = k
    · rw [if_pos z]; exact hx
    · rw [if_neg z]; exact h e' h1
  · intro e he
    rcases List.mem_append.mp he with he | he
    · exact h e he
    · rw [List.mem_singleton.mp he]; exact hx
theorem LenT.one1 {n : Nat} {rows later : Tb} (hr : LenT n rows) (hl : LenT (n + 1) later) (m : Mn) (e l : Option Nat) (b h : BB) : LenT (n + 1) (one1 m rows e l b h later) := by
  unfold Tk.one1
  cases q : lkT rows b with
  | none => exact hl
  | some x =>
    obtain ⟨e', h1, h2⟩ := lkT_mem q
    have hx : (x.2 ++ [h]).length = n + 1 := by rw [← h2, List.length_append, hr e' h1]; rfl
    dsimp only
    split
    · split
      · exact hl.put hx
      · split
        · exact hl.put hx
        · exact hl
    · exact hl
theorem LenT.two {n : Nat} {rows : Tb} (hr : LenT n rows) (m : Mn) (e l : Option Nat) (b : BB) : ∀ (hs : List BB) (later : Tb), LenT (n + 1) later → LenT (n + 1) (hs.foldl (fun t h => Tk.one1 m rows e l b h t) later)
  | [], _, h => h
  | h :: hs, later, hl => LenT.two hr m e l b hs _ (hr.one1 hl m e l b h)
theorem LenT.three {n : Nat} {rows : Tb} (hr : LenT n rows) (m : Mn) (e l : Option Nat) : ∀ (bs : List BB) (later : Tb), LenT (n + 1) later → LenT (n + 1) (bs.foldl (fun t b => one2 m rows e l b t) later)
  | [], _, h => h
  | b :: bs, later, hl => LenT.three hr m e l bs _ (LenT.two hr m e l b hs4 later hl)
theorem LenT.one3 {n : Nat} {rows : Tb} (hr : LenT n rows) (m : Mn) (e l : Option Nat) : LenT (n + 1) (one3 m rows e l) := LenT.three hr m e l hs4 [] fun _ h => nomatch h
/-! ### rows of truths as data -/
theorem depth_hD (h : BB) : (hD h).depth = 1 := by
  obtain ⟨a, b⟩ := h
  rfl
theorem depth_rows : ∀ r : Row, PyData.depthAll (rowL r) ≤ 1
  | [] => by simp [PyData.depthAll]
  | h :: r => by
    have := depth_rows r
    rw [show rowL (h :: r) = hD h :: rowL r from rfl]
    simp only [PyData.depthAll, depth_hD]
    omega
theorem lay_rows : ∀ r : Row, PyData.canLayAll0 (rowL r) = true
  | [] => rfl
  | h :: r => by
    rw [show rowL (h :: r) = hD h :: rowL r from rfl]
    simp only [PyData.canLayAll0, lay_rows r, Bool.and_true]
    rfl
theorem ordOne_cr (x : Int × Row) : ordOne (cr x) = true := by
  have h1 := depth_rows x.2
  have h2 := lay_rows x.2
  unfold ordOne SeqAt.shaped
  have h3 : (cr x).depth = max 0 (max (PyData.depthAll (rowL x.2) + 1) 0) + 1 := by simp [PyData.depth, PyData.depthAll]
  have h4 : (cr x).depth ≤ 3 := by
    rw [h3]
    omega
  have h5 : (cr x).canLay0 = true := by simp only [PyData.canLay0, PyData.canLayAll0, h2]; rfl
  rw [h5, decide_eq_true (by omega : (cr x).depth ≤ 64), decide_eq_true (by omega : (cr x).depth ≤ 60)]
  rfl
theorem ordOne_row (x : Row) : ordOne (rowD x) = true := by
  have h1 := depth_rows x
  have h2 := lay_rows x
  unfold ordOne SeqAt.shaped
  have h3 : (rowD x).depth = PyData.depthAll (rowL x) + 1 := by simp [PyData.depth]
  have h5 : (rowD x).canLay0 = true := by simp only [PyData.canLay0, h2]
  rw [h5, decide_eq_true (by omega : (rowD x).depth ≤ 64), decide_eq_true (by omega : (rowD x).depth ≤ 60)]
  rfl
theorem salA_rows : ∀ r s : Row, r.length = s.length → salA (rowL r) (rowL s) = true
  | [], [], _ => rfl
  | [], _ :: _, h => by simp at h
  | _ :: _, [], h => by simp at h
  | a :: r, b :: s, h => by
    rw [show rowL (a :: r) = hD a :: rowL r from rfl, show rowL (b :: s) = hD b :: rowL s from rfl]
    simp only [salA, salA_rows r s (by simpa using h), Bool.and_true]
    rfl
theorem sal_cr {x y : Int × Row} (h : x.2.length = y.2.length) : sal (cr x) (cr y) = true := by
  have := salA_rows x.2 y.2 h
  simp only [sal, salA, this, Bool.and_true]
theorem sal_row {x y : Row} (h : x.length = y.length) : sal (rowD x) (rowD y) = true := by
  have := salA_rows x y h
  simp only [sal, this]
theorem ordOk_of {ds : List PD} (h : ∀ d ∈ ds, ordOne d = true) (hs : ∀ d ∈ ds, ∀ e ∈ ds, sal d e = true) : ordOk ds = true := by
  unfold ordOk
  rw [Bool.and_eq_true]
  refine ⟨List.all_eq_true.mpr h, ?_⟩
  cases ds with
  | nil => rfl
  | cons d r => exact List.all_eq_true.mpr fun y hy => hs d List.mem_cons_self y hy
theorem ltA_cr {x y : Int × Row} (h : x.2.length = y.2.length) : ltA (cr x) (cr y) = .ok (.bool (lessC x y)) := by
  have ok : ordOk [cr x, cr y] = true := ordOk_of (fun d hd => by
    rcases List.mem_cons.mp hd with rfl | hd
    · exact ordOne_cr x
    · rw [List.mem_singleton.mp hd]; exact ordOne_cr y) (fun d hd e he => by
    rcases List.mem_cons.mp hd with rfl | hd
    · rcases List.mem_cons.mp he with rfl | he
      · exact sal_cr rfl
      · rw [List.mem_singleton.mp he]; exact sal_cr h
    · rw [List.mem_singleton.mp hd]
      rcases List.mem_cons.mp he with rfl | he
      · exact sal_cr h.symm
      · rw [List.mem_singleton.mp he]; exact sal_cr rfl)
  show (if ordOk [cr x, cr y] = true then R.ok (PyData.bool (lessD (cr x) (cr y))) else R.stuck) = _
  rw [if_pos ok]
  rfl
end
end Tk

namespace Tk
open PySem L2 Dn
section
variable [Tabl]
theorem other_oS (l : Option Nat) : dn_other_one [.str (oS l)] = .ok (.str (oS (othF l))) := by
  unfold dn_other_one runB sNx bd_other_one othF
  rw [oS_dot, oS_dash]
  by_cases h : l = some 46
  · simp [eq_oS, -eqD_str, h]
  · simp [eq_oS, -eqD_str, h]
theorem comes_eq (m : Mn) (b h : BB) (l : Option Nat) : dn_comes [.str (mS m), hD b, hD h, .str (oS l)] = .ok (.str (oS (comesF m b h l))) := by
  have e1 := eq_hD h (true, true)
  have e2 := ne_hD h (false, false)
  have e3 := eq_hD b (true, true)
  have e4 := eq_mS_p m
  have e5 := eq_mS_b m
  have e6 := eq_oS l none
  have e7 := other_oS l
  rw [← oS_nil] at e6
  obtain ⟨x, y⟩ := h
  unfold dn_comes runB sNx bd_comes comesF
  by_cases hm : m = .p <;> by_cases hb : m = .b <;> by_cases hl : l = none <;> by_cases hbb : b = (true, true) <;> cases x <;> cases y <;>
    (simp only [hD] at e1 e2 e3; simp [-eqD_str, -neD_str, hD, mkT, szN_eq, e1, e2, e3, e4, e5, e6, e7, hm, hb, hl, hbb, ← oS_nil, ← oS_dot, ← oS_dash] <;> simp_all)
theorem presses_eq (b h : BB) : dn_presses [hD b, hD h] = .ok (.int (presF b h)) := by
  obtain ⟨x, y⟩ := h
  obtain ⟨z, w⟩ := b
  cases x <;> cases y <;> cases z <;> cases w <;> rfl
end
end Tk

namespace Tk
open PySem L2 Dn
section
variable [Tabl]
theorem putT_len (t : Tb) (k : BB) (x : Int × Row) : (putT t k x).length ≤ t.length + 1 := by
  unfold putT
  split
  · rw [List.length_map]; omega
  · simp
theorem one1_len (m : Mn) (rows : Tb) (e l : Option Nat) (b h : BB) (later : Tb) : (one1 m rows e l b h later).length ≤ later.length + 1 := by
  unfold one1
  split
  · omega
  · split
    · split
      · exact putT_len _ _ _
      · split
        · exact putT_len _ _ _
        · omega
    · omega
theorem hf1 {n : Nat} (m : Mn) (C : PD) (rows later : Tb) (l e : Option Nat) (b h : BB) (x8 x9 : SV) (hn : n ≤ 1000) (hr : LenT n rows) (hl : LenT (n + 1) later) (hz : later.length ≤ 1000) :
    ∃ y8, lp_holds_for_1 [.sh (.str (mS m)), .sh C, .bd (tbD rows), .sh (.str (oS l)), .sh (.str (oS e)), .bd (tbD later), .sh (hD b), .sh (hD h), x8, x9] = .ok (.nx [.sh (.str (mS m)), .sh C, .bd (tbD rows), .sh (.str (oS l)), .sh (.str (oS e)), .bd (tbD (one1 m rows e l b h later)), .sh (hD b), .sh (hD h), y8, x9]) := by
  have i1 : ∀ z, dBIn false 2 (dVar 6) [.sh (.str (mS m)), .sh C, .bd (tbD rows), .sh (.str (oS l)), .sh (.str (oS e)), .bd (tbD later), .sh (hD b), .sh (hD h), z, x9] = .ok (.bool (lkT rows b).isSome) := fun z => by
    unfold dBIn
    simp only [List.getElem?_cons_succ, List.getElem?_cons_zero, Option.bind_some, bdOf, dVar_ap, R.bind_ok, k2, lkD_tb, Option.isSome_map, Bool.false_xor]
  have c1 := comes_eq m b h l
  unfold lp_holds_for_1
  cases q : lkT rows b with
  | none =>
    refine ⟨x8, ?_⟩
    have e1 : one1 m rows e l b h later = later := by unfold one1; rw [q]
    rw [e1]
    simp [i1, q]
  | some x =>
    by_cases hc : comesF m b h l = e
    · have g : ∀ z, dBGet 2 (dVar 6) [.sh (.str (mS m)), .sh C, .bd (tbD rows), .sh (.str (oS l)), .sh (.str (oS e)), .bd (tbD later), .sh (hD b), .sh (hD h), z, x9] = .ok (cr x) := fun z => by
        unfold dBGet
        simp only [List.getElem?_cons_succ, List.getElem?_cons_zero, Option.bind_some, bdOf, dVar_ap, R.bind_ok, k2, lkD_tb, q, Option.map_some]
      have p1 := presses_eq b h
      obtain ⟨e', he', hx'⟩ := lkT_mem q
      have hxl : x.2.length = n := by rw [← hx']; exact hr e' he'
      have ad : addD (rowD x.2) (.list [hD h]) = .ok (rowD (x.2 ++ [h])) := by
        show (if (rowL x.2).length + 1 ≤ szN then R.ok (PyData.list (rowL x.2 ++ [hD h])) else R.stuck) = _
        rw [if_pos (by rw [List.length_map, szN_eq]; omega)]
        simp
      have t8 : sAsg 8 (dN mkT (dCons (d2 addD (d2 ixD (dBGet 2 (dVar 6)) (dC (.int 0))) (dCall dn_presses (dCons (dVar 6) (dCons (dVar 7) dNil)))) (dCons (d2 addD (d2 ixD (dBGet 2 (dVar 6)) (dC (.int 1))) (dN mkL (dCons (dVar 7) dNil))) dNil))) [.sh (.str (mS m)), .sh C, .bd (tbD rows), .sh (.str (oS l)), .sh (.str (oS e)), .bd (tbD later), .sh (hD b), .sh (hD h), x8, x9]
          = .ok (.nx [.sh (.str (mS m)), .sh C, .bd (tbD rows), .sh (.str (oS l)), .sh (.str (oS e)), .bd (tbD later), .sh (hD b), .sh (hD h), .sh (cr (x.1 + presF b h, x.2 ++ [h])), x9]) := by
        have j0 : ixD (cr x) (.int 0) = .ok (.int x.1) := rfl
        have j1 : ixD (cr x) (.int 1) = .ok (rowD x.2) := rfl
        generalize rowD x.2 = RD at *
        simp [g, j0, j1, p1, ad, mkT, mkL, szN_eq]
      generalize hy : (x.1 + presF b h, x.2 ++ [h]) = y at t8
      have hyl : y.2.length = n + 1 := by rw [← hy, List.length_append, hxl]; rfl
      have i2 : dBIn true 5 (dVar 7) [.sh (.str (mS m)), .sh C, .bd (tbD rows), .sh (.str (oS l)), .sh (.str (oS e)), .bd (tbD later), .sh (hD b), .sh (hD h), .sh (cr y), x9] = .ok (.bool (!(lkT later h).isSome)) := by
        unfold dBIn
        simp only [List.getElem?_cons_succ, List.getElem?_cons_zero, Option.bind_some, bdOf, dVar_ap, R.bind_ok, k2, lkD_tb, Option.isSome_map, Bool.true_xor]
      have pt : sBPut 5 (dVar 7) (dVar 8) [.sh (.str (mS m)), .sh C, .bd (tbD rows), .sh (.str (oS l)), .sh (.str (oS e)), .bd (tbD later), .sh (hD b), .sh (hD h), .sh (cr y), x9] = .ok (.nx [.sh (.str (mS m)), .sh C, .bd (tbD rows), .sh (.str (oS l)), .sh (.str (oS e)), .bd (tbD (putT later h y)), .sh (hD b), .sh (hD h), .sh (cr y), x9]) := by
        unfold sBPut
        simp only [List.getElem?_cons_succ, List.getElem?_cons_zero, dVar_ap, R.bind_ok, k2, List.length_map, szN_eq]
        rw [if_pos (by omega), putBD_tb]
        rfl
      refine ⟨.sh (cr y), ?_⟩
      have o1 : one1 m rows e l b h later = (match lkT later h with
          | none => putT later h y
          | some z => if lessC y z = true then putT later h y else later) := by
        unfold one1
        rw [q]
        simp only [hc, if_true, hy]
        all_goals (cases lkT later h <;> rfl)
      have hcE : eqD (.str (oS (comesF m b h l))) (.str (oS e)) = .ok (.bool true) := by rw [eq_oS, hc]; simp
      have hd : (dAnd (dTest (dBIn false 2 (dVar 6))) (dTest (d2 eqD (dCall dn_comes (dCons (dVar 0) (dCons (dVar 6) (dCons (dVar 7) (dCons (dVar 3) dNil))))) (dVar 4)))) [.sh (.str (mS m)), .sh C, .bd (tbD rows), .sh (.str (oS l)), .sh (.str (oS e)), .bd (tbD later), .sh (hD b), .sh (hD h), x8, x9] = .ok true := by
        simp [i1, q, c1, hcE, -eqD_str]
      rw [sIf_ap, hd]
      show sSeq _ _ _ = _
      rw [sSeq_ap, t8]
      show sIf _ _ _ _ = _
      cases q2 : lkT later h with
      | none =>
        rw [o1, q2]
        simp [i2, q2, pt]
      | some z =>
        obtain ⟨e2, he2, hx2⟩ := lkT_mem q2
        have hzl : z.2.length = n + 1 := by rw [← hx2]; exact hl e2 he2
        have g2 : dBGet 5 (dVar 7) [.sh (.str (mS m)), .sh C, .bd (tbD rows), .sh (.str (oS l)), .sh (.str (oS e)), .bd (tbD later), .sh (hD b), .sh (hD h), .sh (cr y), x9] = .ok (cr z) := by
          unfold dBGet
          simp only [List.getElem?_cons_succ, List.getElem?_cons_zero, Option.bind_some, bdOf, dVar_ap, R.bind_ok, k2, lkD_tb, q2, Option.map_some]
        have lt := ltA_cr (x := y) (y := z) (by rw [hyl, hzl])
        rw [o1, q2]
        dsimp only
        by_cases hlt : lessC y z = true
        · rw [if_pos hlt]
          rw [hlt] at lt
          simp [i2, q2, pt, g2, lt]
        · have hlf : lessC y z = false := by simpa using hlt
          rw [if_neg hlt]
          rw [hlf] at lt
          simp [i2, q2, pt, g2, lt]
    · refine ⟨x8, ?_⟩
      have e1 : one1 m rows e l b h later = later := by unfold one1; rw [q]; simp [hc]
      rw [e1]
      have hcE : eqD (.str (oS (comesF m b h l))) (.str (oS e)) = .ok (.bool false) := by rw [eq_oS]; simp [hc]
      simp [i1, q, c1, hcE, -eqD_str]
theorem hf1s {n : Nat} (m : Mn) (C : PD) (rows : Tb) (l e : Option Nat) (b : BB) (x9 : SV) (hn : n ≤ 1000) (hr : LenT n rows) : ∀ (hs : List BB) (later : Tb) (x7 x8 : SV), LenT (n + 1) later → later.length + hs.length ≤ 1000 →
    ∃ y7 y8, loopF (gN 7) lp_holds_for_1 (hs.map hD) [.sh (.str (mS m)), .sh C, .bd (tbD rows), .sh (.str (oS l)), .sh (.str (oS e)), .bd (tbD later), .sh (hD b), x7, x8, x9] = .ok (.nx [.sh (.str (mS m)), .sh C, .bd (tbD rows), .sh (.str (oS l)), .sh (.str (oS e)), .bd (tbD (hs.foldl (fun t h => one1 m rows e l b h t) later)), .sh (hD b), y7, y8, x9])
  | [], later, x7, x8, _, _ => ⟨x7, x8, rfl⟩
  | h :: hs, later, x7, x8, hl, hz => by
    rw [List.length_cons] at hz
    obtain ⟨z8, e1⟩ := hf1 m C rows later l e b h x8 x9 hn hr hl (by omega)
    have k1 := one1_len m rows e l b h later
    obtain ⟨y7, y8, ih⟩ := hf1s m C rows l e b x9 hn hr hs (one1 m rows e l b h later) (.sh (hD h)) z8 (hr.one1 hl m e l b h) (by omega)
    refine ⟨y7, y8, ?_⟩
    rw [List.map_cons, loopF_cons, List.foldl_cons, ← ih]
    simp only [gN_ap, R.noexc_ok, R.bind_ok, List.set_cons_succ, List.set_cons_zero, e1]
theorem fold1_len (m : Mn) (rows : Tb) (l e : Option Nat) (b : BB) : ∀ (hs : List BB) (later : Tb), (hs.foldl (fun t h => one1 m rows e l b h t) later).length ≤ later.length + hs.length
  | [], _ => Nat.le_refl _
  | h :: hs, later => by
    have a := fold1_len m rows l e b hs (one1 m rows e l b h later)
    have k1 := one1_len m rows e l b h later
    rw [List.foldl_cons, List.length_cons]
    omega
theorem asT_holds (en : En) : dIt asT (dC cv_HOLDS) en = .ok (hs4.map hD) := rfl
theorem hf2 {n : Nat} (m : Mn) (C : PD) (rows : Tb) (l e : Option Nat) (b : BB) (x9 : SV) (hn : n ≤ 1000) (hr : LenT n rows) (later : Tb) (x7 x8 : SV) (hl : LenT (n + 1) later) (hz : later.length ≤ 900) :
    ∃ y7 y8, lp_holds_for_2 [.sh (.str (mS m)), .sh C, .bd (tbD rows), .sh (.str (oS l)), .sh (.str (oS e)), .bd (tbD later), .sh (hD b), x7, x8, x9] = .ok (.nx [.sh (.str (mS m)), .sh C, .bd (tbD rows), .sh (.str (oS l)), .sh (.str (oS e)), .bd (tbD (one2 m rows e l b later)), .sh (hD b), y7, y8, x9]) := by
  obtain ⟨y7, y8, h⟩ := hf1s m C rows l e b x9 hn hr hs4 later x7 x8 hl (by show later.length + 4 ≤ 1000; omega)
  refine ⟨y7, y8, ?_⟩
  unfold lp_holds_for_2
  rw [sFor_ap, asT_holds]
  exact h
theorem hf2s {n : Nat} (m : Mn) (C : PD) (rows : Tb) (l e : Option Nat) (x9 : SV) (hn : n ≤ 1000) (hr : LenT n rows) : ∀ (bs : List BB) (later : Tb) (x6 x7 x8 : SV), LenT (n + 1) later → later.length + 4 * bs.length ≤ 900 →
    ∃ y6 y7 y8, loopF (gN 6) lp_holds_for_2 (bs.map hD) [.sh (.str (mS m)), .sh C, .bd (tbD rows), .sh (.str (oS l)), .sh (.str (oS e)), .bd (tbD later), x6, x7, x8, x9] = .ok (.nx [.sh (.str (mS m)), .sh C, .bd (tbD rows), .sh (.str (oS l)), .sh (.str (oS e)), .bd (tbD (bs.foldl (fun t b => one2 m rows e l b t) later)), y6, y7, y8, x9])
  | [], later, x6, x7, x8, _, _ => ⟨x6, x7, x8, rfl⟩
  | b :: bs, later, x6, x7, x8, hl, hz => by
    rw [List.length_cons] at hz
    obtain ⟨z7, z8, e1⟩ := hf2 m C rows l e b x9 hn hr later x7 x8 hl (by omega)
    have k1 : (one2 m rows e l b later).length ≤ later.length + 4 := fold1_len m rows l e b hs4 later
    obtain ⟨y6, y7, y8, ih⟩ := hf2s m C rows l e x9 hn hr bs (one2 m rows e l b later) (.sh (hD b)) z7 z8 (LenT.two hr m e l b hs4 later hl) (by omega)
    refine ⟨y6, y7, y8, ?_⟩
    rw [List.map_cons, loopF_cons, List.foldl_cons, ← ih]
    simp only [gN_ap, R.noexc_ok, R.bind_ok, List.set_cons_succ, List.set_cons_zero, e1]
theorem hf3 {n : Nat} (m : Mn) (C : PD) (rows : Tb) (l e : Option Nat) (x5 x6 x7 x8 x9 : SV) (hn : n ≤ 1000) (hr : LenT n rows) :
    ∃ y5 y6 y7 y8, lp_holds_for_3 [.sh (.str (mS m)), .sh C, .bd (tbD rows), .sh (.str (oS l)), .sh (.str (oS e)), x5, x6, x7, x8, x9] = .ok (.nx [.sh (.str (mS m)), .sh C, .bd (tbD (one3 m rows e l)), .sh (.str (oS e)), .sh (.str (oS e)), y5, y6, y7, y8, x9]) := by
  obtain ⟨y6, y7, y8, h⟩ := hf2s m C rows l e x9 hn hr hs4 [] x6 x7 x8 (fun _ h => nomatch h) (by decide)
  refine ⟨.no, y6, y7, y8, ?_⟩
  unfold lp_holds_for_3
  have e1 : sBNew 5 [.sh (.str (mS m)), .sh C, .bd (tbD rows), .sh (.str (oS l)), .sh (.str (oS e)), x5, x6, x7, x8, x9] = .ok (.nx [.sh (.str (mS m)), .sh C, .bd (tbD rows), .sh (.str (oS l)), .sh (.str (oS e)), .bd (tbD []), x6, x7, x8, x9]) := rfl
  rw [sSeq_ap, e1]
  show sSeq _ _ _ = _
  rw [sSeq_ap, sFor_ap, asT_holds]
  simp only [R.bind_ok]
  rw [h]
  rfl
theorem hf3s (m : Mn) (C : PD) (x9 : SV) : ∀ (cs : List Nat) (n : Nat) (rows : Tb) (l : Option Nat) (x4 x5 x6 x7 x8 : SV), n + cs.length ≤ 1000 → LenT n rows →
    ∃ y4 y5 y6 y7 y8, loopF (gN 4) lp_holds_for_3 (cs.map sg) [.sh (.str (mS m)), .sh C, .bd (tbD rows), .sh (.str (oS l)), x4, x5, x6, x7, x8, x9] = .ok (.nx [.sh (.str (mS m)), .sh C, .bd (tbD (tabF m cs l rows).1), .sh (.str (oS (tabF m cs l rows).2)), y4, y5, y6, y7, y8, x9])
  | [], n, rows, l, x4, x5, x6, x7, x8, _, _ => ⟨x4, x5, x6, x7, x8, rfl⟩
  | c :: cs, n, rows, l, x4, x5, x6, x7, x8, hn, hr => by
    rw [List.length_cons] at hn
    obtain ⟨z5, z6, z7, z8, e1⟩ := hf3 m C rows l (some c) x5 x6 x7 x8 x9 (by omega) hr
    obtain ⟨y4, y5, y6, y7, y8, ih⟩ := hf3s m C x9 cs (n + 1) (one3 m rows (some c) l) (some c) (.sh (sg c)) z5 z6 z7 z8 (by omega) (hr.one3 m (some c) l)
    refine ⟨y4, y5, y6, y7, y8, ?_⟩
    rw [List.map_cons, loopF_cons]
    have e2 : tabF m (c :: cs) l rows = tabF m cs (some c) (one3 m rows (some c) l) := rfl
    rw [e2, ← ih]
    have e3 : (sg c : PD) = .str (oS (some c)) := rfl
    rw [e3]
    simp only [gN_ap, R.noexc_ok, R.bind_ok, List.set_cons_succ, List.set_cons_zero, e1]
theorem tabF_len (m : Mn) : ∀ (cs : List Nat) (n : Nat) (rows : Tb) (l : Option Nat), LenT n rows → LenT (n + cs.length) (tabF m cs l rows).1
  | [], n, rows, l, h => h
  | c :: cs, n, rows, l, h => by
    have := tabF_len m cs (n + 1) (one3 m rows (some c) l) (some c) (h.one3 m (some c) l)
    rw [List.length_cons, show n + (cs.length + 1) = n + 1 + cs.length by omega]
    exact this
def fin4 (m : Mn) (l : Option Nat) (e : BB × (Int × Row)) : List (Int × Row) := if comesF m e.1 (false, false) l = none then [(e.2.1, e.2.2 ++ [(false, false)])] else []
theorem hf4 {n : Nat} (m : Mn) (C : PD) (rows : Tb) (l : Option Nat) (x4 x5 x7 x8 : SV) (hn : n ≤ 1000) (hr : LenT n rows) (b : BB) (x : Int × Row) (hx : lkT rows b = some x) (L : List (Int × Row)) (hL : L.length ≤ 1000) :
    lp_holds_for_4 [.sh (.str (mS m)), .sh C, .bz (tbD rows), .sh (.str (oS l)), x4, x5, .sh (hD b), x7, x8, .ol (L.map cr)] = .ok (.nx [.sh (.str (mS m)), .sh C, .bz (tbD rows), .sh (.str (oS l)), x4, x5, .sh (hD b), x7, x8, .ol ((L ++ fin4 m l (b, x)).map cr)]) := by
  have c1 := comes_eq m b (false, false) l
  have g : dBGet 2 (dVar 6) [.sh (.str (mS m)), .sh C, .bz (tbD rows), .sh (.str (oS l)), x4, x5, .sh (hD b), x7, x8, .ol (L.map cr)] = .ok (cr x) := by
    unfold dBGet
    simp only [List.getElem?_cons_succ, List.getElem?_cons_zero, Option.bind_some, bdOf, dVar_ap, R.bind_ok, k2, lkD_tb, hx, Option.map_some]
  obtain ⟨e', he', hx'⟩ := lkT_mem hx
  have hxl : x.2.length = n := by rw [← hx']; exact hr e' he'
  have ad : addD (rowD x.2) (.list [hD (false, false)]) = .ok (rowD (x.2 ++ [(false, false)])) := by
    show (if (rowL x.2).length + 1 ≤ szN then R.ok (PyData.list (rowL x.2 ++ [hD (false, false)])) else R.stuck) = _
    rw [if_pos (by rw [List.length_map, szN_eq]; omega)]
    simp
  have j0 : ixD (cr x) (.int 0) = .ok (.int x.1) := rfl
  have j1 : ixD (cr x) (.int 1) = .ok (rowD x.2) := rfl
  unfold lp_holds_for_4 fin4
  have hcE := eq_oS (comesF m b (false, false) l) none
  rw [← oS_nil] at hcE
  have hL2 : L.length + 1 ≤ 1000000 := by omega
  by_cases hc : comesF m b (false, false) l = none
  · rw [if_pos hc]
    rw [hc] at hcE c1
    have hd : dTest (d2 eqD (dCall dn_comes (dCons (dVar 0) (dCons (dVar 6) (dCons (dN mkT (dCons (dC (.bool false)) (dCons (dC (.bool false)) dNil))) (dCons (dVar 3) dNil))))) (dC (.str ""))) [.sh (.str (mS m)), .sh C, .bz (tbD rows), .sh (.str (oS l)), x4, x5, .sh (hD b), x7, x8, .ol (L.map cr)] = .ok true := by
      generalize L.map cr = LD at *
      simp [-eqD_str, mkT, szN_eq, c1, hcE]
    have ht : dN mkT (dCons (d2 ixD (dBGet 2 (dVar 6)) (dC (.int 0))) (dCons (d2 addD (d2 ixD (dBGet 2 (dVar 6)) (dC (.int 1))) (dN mkL (dCons (dN mkT (dCons (dC (.bool false)) (dCons (dC (.bool false)) dNil))) dNil))) dNil)) [.sh (.str (mS m)), .sh C, .bz (tbD rows), .sh (.str (oS l)), x4, x5, .sh (hD b), x7, x8, .ol (L.map cr)] = .ok (cr (x.1, x.2 ++ [(false, false)])) := by
      generalize L.map cr = LD at *
      generalize rowD x.2 = RD at *
      simp [mkT, mkL, szN_eq, g, j0, j1, ad]
    rw [sIf_ap, hd]
    simp only [R.bind_ok]
    rw [sApp_ap, ht]
    have hl3 : (L.map cr).length + 1 ≤ 1000000 := by rw [List.length_map]; exact hL2
    simp [szN_eq]
    omega
  · rw [if_neg hc, List.append_nil]
    have hd : dTest (d2 eqD (dCall dn_comes (dCons (dVar 0) (dCons (dVar 6) (dCons (dN mkT (dCons (dC (.bool false)) (dCons (dC (.bool false)) dNil))) (dCons (dVar 3) dNil))))) (dC (.str ""))) [.sh (.str (mS m)), .sh C, .bz (tbD rows), .sh (.str (oS l)), x4, x5, .sh (hD b), x7, x8, .ol (L.map cr)] = .ok false := by
      have hcE2 : eqD (.str (oS (comesF m b (false, false) l))) (.str "") = .ok (.bool false) := by rw [hcE]; simp [hc]
      generalize L.map cr = LD at *
      simp [-eqD_str, mkT, szN_eq, c1, hcE2]
    rw [sIf_ap, hd]
    rfl
/-! ### keys are unlike -/
def NodT (t : Tb) : Prop := (t.map (·.1)).Nodup
theorem putT_keys (t : Tb) (k : BB) (x : Int × Row) : (putT t k x).map (·.1) = if (lkT t k).isSome then t.map (·.1) else t.map (·.1) ++ [k] := by
  unfold putT
  split
  · rw [List.map_map]
    refine List.map_congr_left fun e _ => ?_
    show (if e.1 = k then (e.1, x) else e).1 = e.1
    split <;> rfl
  · rw [List.map_append]
    rfl
theorem lkT_none {t : Tb} {k : BB} (h : lkT t k = none) : k ∉ t.map (·.1) := fun hk => by
  obtain ⟨e, he, rfl⟩ := List.mem_map.mp hk
  unfold lkT at h
  have := List.find?_eq_none.mp (Option.map_eq_none_iff.mp h) e he
  simp at this
theorem NodT.put {t : Tb} {k : BB} {x : Int × Row} (h : NodT t) : NodT (putT t k x) := by
  unfold NodT
  rw [putT_keys]
  split
  · exact h
  · rename_i q
    have q' : lkT t k = none := by
      cases z : lkT t k with
      | none => rfl
      | some v => rw [z] at q; exact absurd rfl q
    refine List.nodup_append.mpr ⟨h, by simp, fun a ha b hb e => ?_⟩
    rw [List.mem_singleton] at hb
    rw [e, hb] at ha
    exact lkT_none q' ha
theorem NodT.one1 {later : Tb} (h : NodT later) (m : Mn) (rows : Tb) (e l : Option Nat) (b g : BB) : NodT (one1 m rows e l b g later) := by
  unfold Tk.one1
  split
  · exact h
  · split
    · split
      · exact h.put
      · split
        · exact h.put
        · exact h
    · exact h
theorem NodT.two (m : Mn) (rows : Tb) (e l : Option Nat) (b : BB) : ∀ (hs : List BB) (later : Tb), NodT later → NodT (hs.foldl (fun t h => Tk.one1 m rows e l b h t) later)
  | [], _, h => h
  | g :: hs, later, h => NodT.two m rows e l b hs _ (h.one1 m rows e l b g)
theorem NodT.three (m : Mn) (rows : Tb) (e l : Option Nat) : ∀ (bs : List BB) (later : Tb), NodT later → NodT (bs.foldl (fun t b => one2 m rows e l b t) later)
  | [], _, h => h
  | b :: bs, later, h => NodT.three m rows e l bs _ (NodT.two m rows e l b hs4 later h)
theorem tabF_nod (m : Mn) : ∀ (cs : List Nat) (rows : Tb) (l : Option Nat), NodT rows → NodT (tabF m cs l rows).1
  | [], rows, l, h => h
  | c :: cs, rows, l, h => tabF_nod m cs _ _ (NodT.three m rows (some c) l hs4 [] List.nodup_nil)
theorem fold2_len (m : Mn) (rows : Tb) (l e : Option Nat) : ∀ (bs : List BB) (later : Tb), (bs.foldl (fun t b => one2 m rows e l b t) later).length ≤ later.length + 4 * bs.length
  | [], _ => Nat.le_refl _
  | b :: bs, later => by
    have a := fold2_len m rows l e bs (one2 m rows e l b later)
    have k1 : (one2 m rows e l b later).length ≤ later.length + 4 := fold1_len m rows l e b hs4 later
    rw [List.foldl_cons, List.length_cons]
    omega
theorem tabF_small (m : Mn) : ∀ (cs : List Nat) (rows : Tb) (l : Option Nat), rows.length ≤ 16 → (tabF m cs l rows).1.length ≤ 16
  | [], rows, l, h => h
  | c :: cs, rows, l, h => tabF_small m cs _ _ (fold2_len m rows l (some c) hs4 [])
theorem lkT_at : ∀ {t : Tb}, NodT t → ∀ e ∈ t, lkT t e.1 = some e.2
  | [], _, e, h => nomatch h
  | a :: t, hn, e, h => by
    unfold NodT at hn
    rw [List.map_cons, List.nodup_cons] at hn
    unfold lkT
    rw [List.find?_cons]
    rcases List.mem_cons.mp h with rfl | h
    · simp
    · have ne : ¬ a.1 = e.1 := fun z => hn.1 (by rw [z]; exact List.mem_map.mpr ⟨e, h, rfl⟩)
      have := lkT_at (t := t) hn.2 e h
      unfold lkT at this
      simp only [ne, decide_false]
      exact this
theorem hf4s {n : Nat} (m : Mn) (C : PD) (rows : Tb) (l : Option Nat) (x4 x5 x7 x8 : SV) (hn : n ≤ 1000) (hr : LenT n rows) (hd : NodT rows) : ∀ (es : Tb) (x6 : SV) (L : List (Int × Row)), (∀ e ∈ es, e ∈ rows) → L.length + es.length ≤ 1000 →
    ∃ y6, loopF (gN 6) lp_holds_for_4 (es.map fun e => hD e.1) [.sh (.str (mS m)), .sh C, .bz (tbD rows), .sh (.str (oS l)), x4, x5, x6, x7, x8, .ol (L.map cr)] = .ok (.nx [.sh (.str (mS m)), .sh C, .bz (tbD rows), .sh (.str (oS l)), x4, x5, y6, x7, x8, .ol ((L ++ es.flatMap (fin4 m l)).map cr)])
  | [], x6, L, _, _ => ⟨x6, by rw [List.flatMap_nil, List.append_nil]; rfl⟩
  | e :: es, x6, L, he, hL => by
    rw [List.length_cons] at hL
    have e1 := hf4 m C rows l x4 x5 x7 x8 hn hr e.1 e.2 (lkT_at hd e (he e List.mem_cons_self)) L (by omega)
    have k1 : (fin4 m l (e.1, e.2)).length ≤ 1 := by unfold fin4; split <;> simp
    obtain ⟨y6, ih⟩ := hf4s m C rows l x4 x5 x7 x8 hn hr hd es (.sh (hD e.1)) (L ++ fin4 m l (e.1, e.2)) (fun z hz => he z (List.mem_cons_of_mem _ hz)) (by rw [List.length_append]; omega)
    refine ⟨y6, ?_⟩
    rw [List.map_cons, loopF_cons, List.flatMap_cons, ← List.append_assoc]
    have e2 : fin4 m l e = fin4 m l (e.1, e.2) := rfl
    rw [e2, ← ih]
    simp only [gN_ap, R.noexc_ok, R.bind_ok, List.set_cons_succ, List.set_cons_zero, e1]
theorem flat_fin (m : Mn) (l : Option Nat) : ∀ t : Tb, t.flatMap (fin4 m l) = endsF m t l
  | [] => rfl
  | e :: t => by
    rw [List.flatMap_cons, flat_fin m l t]
    unfold endsF fin4
    by_cases h : comesF m e.1 (false, false) l = none
    · rw [if_pos h, List.filter_cons_of_pos (by simpa using h)]
      rfl
    · rw [if_neg h, List.filter_cons_of_neg (by simpa using h)]
      rfl
theorem holds_for_eq (m : Mn) (cs : List Nat) (hc : cs.length ≤ 100) {v : PD} (hv : minA [.list ((holdsF m cs).map cr)] = .ok v) : dn_holds_for [.str (mS m), .str (st cs)] = .ok v := by
  have h0 : LenT 0 [((false, false), ((0 : Int), ([] : Row)))] := fun e he => by rw [List.mem_singleton.mp he]; rfl
  have n0 : NodT [((false, false), ((0 : Int), ([] : Row)))] := by unfold NodT; simp
  obtain ⟨y4, y5, y6, y7, y8, e1⟩ := hf3s m (.str (st cs)) .no cs 0 [((false, false), (0, []))] none .no .no .no .no .no (by omega) h0
  have h1 := tabF_len m cs 0 [((false, false), (0, []))] none h0
  have n1 := tabF_nod m cs [((false, false), (0, []))] none n0
  have tl := tabF_small m cs [((false, false), (0, []))] none (by decide)
  unfold holdsF at hv
  generalize tabF m cs none [((false, false), ((0 : Int), ([] : Row)))] = q at *
  obtain ⟨t, l⟩ := q
  dsimp only at e1 h1 n1 tl hv ⊢
  obtain ⟨z6, e2⟩ := hf4s m (.str (st cs)) t l y4 y5 y7 y8 (by omega) h1 n1 t y6 [] (fun e h => h) (by simp; omega)
  rw [flat_fin, List.nil_append] at e2
  unfold dn_holds_for runB sNx bd_holds_for
  have s1 : sBDisp 2 (dN mkT (dCons (dC (.bool false)) (dCons (dC (.bool false)) dNil))) (dN mkT (dCons (dC (.int 0)) (dCons (dN mkL dNil) dNil))) [.sh (.str (mS m)), .sh (.str (st cs)), .no, .no, .no, .no, .no, .no, .no, .no] = .ok (.nx [.sh (.str (mS m)), .sh (.str (st cs)), .bd (tbD [((false, false), (0, []))]), .no, .no, .no, .no, .no, .no, .no]) := rfl
  have s2 : ∀ a b : SV, sAsg 3 (dC (.str "")) [.sh (.str (mS m)), .sh (.str (st cs)), a, .no, .no, .no, .no, .no, .no, .no] = .ok (.nx [.sh (.str (mS m)), .sh (.str (st cs)), a, .sh (.str (oS none)), .no, .no, .no, .no, .no, .no]) := fun a b => rfl
  have s4 : ∀ a b c : SV, sAsgF 9 (dLst dNil) [.sh (.str (mS m)), .sh (.str (st cs)), a, b, y4, y5, y6, y7, y8, .no] = .ok (.nx [.sh (.str (mS m)), .sh (.str (st cs)), a, b, y4, y5, y6, y7, y8, .ol (([] : List (Int × Row)).map cr)]) := fun a b c => rfl
  have s5 : sFix 2 (sFor (dKeysB 2) (gN 6) lp_holds_for_4) [.sh (.str (mS m)), .sh (.str (st cs)), .bd (tbD t), .sh (.str (oS l)), y4, y5, y6, y7, y8, .ol (([] : List (Int × Row)).map cr)] = .ok (.nx [.sh (.str (mS m)), .sh (.str (st cs)), .bz (tbD t), .sh (.str (oS l)), y4, y5, z6, y7, y8, .ol ((endsF m t l).map cr)]) := by
    show loopF (gN 6) lp_holds_for_4 ((tbD t).map fun e => .tuple [.bool e.1.1, .bool e.1.2]) _ = _
    rw [← e2, List.map_map]
    rfl
  show R.bind (noXm ((sSeq _ _ [.sh (.str (mS m)), .sh (.str (st cs)), .no, .no, .no, .no, .no, .no, .no, .no]).noexc)) _ = _
  rw [sSeq_ap, s1]
  simp only [R.bind_ok]
  rw [sSeq_ap, s2 _ .no]
  simp only [R.bind_ok]
  rw [sSeq_ap, sFor_ap]
  have sgs : dIt signs (dVar 1) [.sh (.str (mS m)), .sh (.str (st cs)), .bd (tbD [((false, false), (0, []))]), .sh (.str (oS none)), .no, .no, .no, .no, .no, .no] = .ok (cs.map sg) := rfl
  rw [sgs]
  simp only [R.bind_ok]
  rw [e1]
  simp only [R.bind_ok]
  rw [sSeq_ap, s4 _ _ .no]
  simp only [R.bind_ok]
  rw [sSeq_ap, s5]
  simp only [R.bind_ok]
  generalize (endsF m t l).map cr = LL at *
  simp [hv]
end
end Tk

namespace Tk
open PySem L2 Dn
variable [Tabl]
def told (cs : List Str) (r : R PD) : R PD := match r with
  | .ok d => .ok d
  | .exc c => if c ∈ cs then .ok (.str c) else .stuck
  | .stuck => .stuck
theorem told_ap (cs : List Str) (fa : En → R PD) (en : En) : dTold cs fa en = told cs (fa en) := by
  unfold dTold told
  cases fa en <;> rfl
theorem told_ok (cs : List Str) (d : PD) : told cs (.ok d) = .ok d := nrf rfl
theorem told_exc (cs : List Str) (c : Str) (h : c ∈ cs) : told cs (.exc c) = .ok (.str c) := if_pos h
end Tk

namespace Tk
open PySem L2 Dn
section
variable [Tabl]
/-! ### holds that make a code -/
def Path (m : Mn) : BB → Option Nat → List Nat → Row → Prop
  | _, _, [], [] => True
  | b, l, c :: cs, h :: hs => comesF m b h l = some c ∧ Path m h (some c) cs hs
  | _, _, _, _ => False
def prs : BB → Row → Int
  | _, [] => 0
  | b, h :: r => presF b h + prs h r
def lastB : BB → Row → BB
  | b, [] => b
  | _, h :: r => lastB h r
def lastC : Option Nat → List Nat → Option Nat
  | l, [] => l
  | _, c :: cs => lastC (some c) cs
theorem path_snoc (m : Mn) (h : BB) (c : Nat) : ∀ (cs : List Nat) (hs : Row) (b : BB) (l : Option Nat), Path m b l cs hs → comesF m (lastB b hs) h (lastC l cs) = some c → Path m b l (cs ++ [c]) (hs ++ [h])
  | [], [], b, l, _, k => ⟨k, True.intro⟩
  | [], _ :: _, _, _, p, _ => p.elim
  | _ :: _, [], _, _, p, _ => p.elim
  | c' :: cs, h' :: hs, b, l, p, k => ⟨p.1, path_snoc m h c cs hs h' (some c') p.2 k⟩
theorem path_len (m : Mn) : ∀ (cs : List Nat) (hs : Row) (b : BB) (l : Option Nat), Path m b l cs hs → hs.length = cs.length
  | [], [], _, _, _ => rfl
  | [], _ :: _, _, _, p => p.elim
  | _ :: _, [], _, _, p => p.elim
  | c :: cs, h :: hs, b, l, p => by simp [path_len m cs hs h (some c) p.2]
theorem prs_snoc (h : BB) : ∀ (r : Row) (b : BB), prs b (r ++ [h]) = prs b r + presF (lastB b r) h
  | [], b => by simp [prs, lastB]
  | g :: r, b => by
    show presF b g + prs g (r ++ [h]) = presF b g + prs g r + presF (lastB g r) h
    rw [prs_snoc h r g]
    omega
theorem lastB_snoc (h : BB) : ∀ (r : Row) (b : BB), lastB b (r ++ [h]) = h
  | [], b => rfl
  | g :: r, b => lastB_snoc h r g
theorem lastC_snoc (c : Nat) : ∀ (cs : List Nat) (l : Option Nat), lastC l (cs ++ [c]) = some c
  | [], _ => rfl
  | _ :: cs, _ => lastC_snoc c cs _
def InvT (m : Mn) (cs : List Nat) (t : Tb) : Prop := ∀ e ∈ t, Path m (false, false) none cs e.2.2 ∧ lastB (false, false) e.2.2 = e.1 ∧ e.2.1 = prs (false, false) e.2.2
theorem lkT_key {t : Tb} {k : BB} {x : Int × Row} (h : lkT t k = some x) : ∃ e ∈ t, e.1 = k ∧ e.2 = x := by
  unfold lkT at h
  cases q : t.find? fun e => decide (e.1 = k) with
  | none => rw [q] at h; cases h
  | some e =>
    rw [q] at h
    have := List.find?_some q
    exact ⟨e, List.mem_of_find?_eq_some q, of_decide_eq_true this, Option.some.inj h⟩
theorem InvT.put {m : Mn} {cs : List Nat} {t : Tb} {k : BB} {x : Int × Row} (h : InvT m cs t) (h1 : Path m (false, false) none cs x.2) (h2 : lastB (false, false) x.2 = k) (h3 : x.1 = prs (false, false) x.2) : InvT m cs (putT t k x) := by
  unfold putT
  split
  · intro e he
    obtain ⟨e', g1, rfl⟩ := List.mem_map.mp he
    by_cases z : e'.1 = k
    · rw [if_pos z]; exact ⟨h1, by rw [h2, z], h3⟩
    · rw [if_neg z]; exact h e' g1
  · intro e he
    rcases List.mem_append.mp he with he | he
    · exact h e he
    · rw [List.mem_singleton.mp he]; exact ⟨h1, h2, h3⟩
theorem InvT.one1 {m : Mn} {cs : List Nat} {c : Nat} {rows later : Tb} (hr : InvT m cs rows) (hl : InvT m (cs ++ [c]) later) (b h : BB) : InvT m (cs ++ [c]) (one1 m rows (some c) (lastC none cs) b h later) := by
  unfold Tk.one1
  cases q : lkT rows b with
  | none => exact hl
  | some x =>
    obtain ⟨e', g1, g2, g3⟩ := lkT_key q
    obtain ⟨a1, a2, a3⟩ := hr e' g1
    rw [g3] at a1 a2 a3
    dsimp only
    split
    · rename_i hc
      have k1 : Path m (false, false) none (cs ++ [c]) (x.2 ++ [h]) := path_snoc m h c cs x.2 _ _ a1 (by rw [a2, g2]; exact hc)
      have k2 : lastB (false, false) (x.2 ++ [h]) = h := lastB_snoc h x.2 _
      have k3 : x.1 + presF b h = prs (false, false) (x.2 ++ [h]) := by rw [prs_snoc, a2, g2, a3]
      split
      · exact hl.put k1 k2 k3
      · split
        · exact hl.put k1 k2 k3
        · exact hl
    · exact hl
theorem InvT.two {m : Mn} {cs : List Nat} {c : Nat} {rows : Tb} (hr : InvT m cs rows) (b : BB) : ∀ (hs : List BB) (later : Tb), InvT m (cs ++ [c]) later → InvT m (cs ++ [c]) (hs.foldl (fun t h => Tk.one1 m rows (some c) (lastC none cs) b h t) later)
  | [], _, h => h
  | h :: hs, later, hl => InvT.two hr b hs _ (hr.one1 hl b h)
theorem InvT.three {m : Mn} {cs : List Nat} {c : Nat} {rows : Tb} (hr : InvT m cs rows) : ∀ (bs : List BB) (later : Tb), InvT m (cs ++ [c]) later → InvT m (cs ++ [c]) (bs.foldl (fun t b => one2 m rows (some c) (lastC none cs) b t) later)
  | [], _, h => h
  | b :: bs, later, hl => InvT.three hr bs _ (InvT.two hr b hs4 later hl)
theorem tabF_inv (m : Mn) : ∀ (cs ds : List Nat) (t : Tb), InvT m ds t → InvT m (ds ++ cs) (tabF m cs (lastC none ds) t).1 ∧ (tabF m cs (lastC none ds) t).2 = lastC none (ds ++ cs)
  | [], ds, t, h => by rw [List.append_nil]; exact ⟨h, rfl⟩
  | c :: cs, ds, t, h => by
    have a := tabF_inv m cs (ds ++ [c]) (one3 m t (some c) (lastC none ds)) (InvT.three h hs4 [] fun _ h => nomatch h)
    rw [lastC_snoc, List.append_assoc] at a
    exact a
theorem holdsF_path (m : Mn) (cs : List Nat) : ∀ x ∈ holdsF m cs, ∃ row : Row, x = (prs (false, false) row, row ++ [(false, false)]) ∧ Path m (false, false) none cs row ∧ comesF m (lastB (false, false) row) (false, false) (lastC none cs) = none := fun x hx => by
  have h0 : InvT m [] [((false, false), ((0 : Int), ([] : Row)))] := fun e he => by rw [List.mem_singleton.mp he]; exact ⟨True.intro, rfl, rfl⟩
  obtain ⟨h1, h2⟩ := tabF_inv m cs [] _ h0
  unfold holdsF endsF at hx
  obtain ⟨e, he, rfl⟩ := List.mem_map.mp hx
  obtain ⟨he, hc⟩ := List.mem_filter.mp he
  rw [List.nil_append] at h1 h2
  obtain ⟨a1, a2, a3⟩ := h1 e he
  have hc' := of_decide_eq_true hc
  refine ⟨e.2.2, by rw [← a3], a1, ?_⟩
  rw [a2, ← h2]
  exact hc'
/-! ### the keyer on them -/
theorem wish_comes (s : Kst) (b h : BB) (ha : s.ah = none) (hq : s.sq = (b.1 && b.2)) : comesF s.mn b h (s.el.map elC) = (wishF s h.1 h.2).map elC := by
  unfold comesF wishF othF
  rw [ha, hq]
  obtain ⟨x, y⟩ := h
  obtain ⟨z, w⟩ := b
  cases s.mn <;> rcases s.el with _ | (_ | _) <;> cases x <;> cases y <;> cases z <;> cases w <;> rfl
theorem noteR_const (k : Keys) : ∀ (n : Nat) (s : Kst), s.hl = k.1 → s.hr = k.2 → s.sq = (k.1 && k.2) → noteR s (List.replicate n k) = { s with ck := s.ck + n }
  | 0, s, _, _, _ => by simp [noteR]
  | n + 1, s, h1, h2, h3 => by
    rw [List.replicate_succ]
    have e : noteN s k = { s with ck := s.ck + 1 } := by
      obtain ⟨mn, u, w, el, tl, gl, ah, sq, hl, hr, rows, ck⟩ := s
      obtain ⟨x, y⟩ := k
      simp only at h1 h2 h3
      subst h1 h2 h3
      unfold noteN noteF pressed
      dsimp only
      cases hl <;> cases hr <;> cases isDot el <;> cases mn.isP <;> rfl
    show noteR (noteN s k) (List.replicate n k) = _
    rw [e, noteR_const k n { s with ck := s.ck + 1 } h1 h2 h3]
    simp only [Kst.mk.injEq, true_and]
    omega
def dC52 (u : Int) (c : Nat) : Nat := (dL u (decide (c = 46))).toNat
def handF (u : Int) : List Nat → Row → List Keys
  | c :: cs, h :: hs => List.replicate (dC52 u c) h ++ handF u cs hs
  | _, _ => []
def isEl (c : Nat) : Prop := c = 46 ∨ c = 45
theorem elC_dec {c : Nat} (h : isEl c) : elC (decide (c = 46)) = c := by rcases h with rfl | rfl <;> rfl
theorem run_path (u : Int) (h1 : 1 ≤ u) (h9 : u ≤ 9) : ∀ (cs : List Nat) (hs : Row) (s : Kst) (b : BB), s.Ok → s.u = u → s.tl = 0 → s.gl = 0 → s.ah = none → s.sq = (b.1 && b.2) → (∀ c ∈ cs, isEl c) → Path s.mn b (s.el.map elC) cs hs →
    ∃ s', runK1 s (handF u cs hs) = s' ∧ s'.Ok ∧ s'.u = u ∧ s'.tl = 0 ∧ s'.gl = 0 ∧ s'.ah = none ∧ s'.sq = ((lastB b hs).1 && (lastB b hs).2) ∧ s'.mn = s.mn ∧ s'.el.map elC = lastC (s.el.map elC) cs ∧ s'.rows.map (fun p => elC p.2) = s.rows.map (fun p => elC p.2) ++ cs
  | [], [], s, b, o, hu, ht, hg, ha, hq, _, _ => ⟨s, rfl, o, hu, ht, hg, ha, hq, rfl, rfl, by simp⟩
  | [], _ :: _, _, _, _, _, _, _, _, _, _, p => p.elim
  | _ :: _, [], _, _, _, _, _, _, _, _, _, p => p.elim
  | c :: cs, h :: hs, s, b, o, hu, ht, hg, ha, hq, hc, p => by
    have hel := elC_dec (hc c List.mem_cons_self)
    have hw : wishF s h.1 h.2 = some (decide (c = 46)) := by
      have := wish_comes s b h ha hq
      rw [p.1] at this
      cases e : wishF s h.1 h.2 with
      | none => rw [e] at this; cases this
      | some v =>
        rw [e] at this
        have hv : c = elC v := Option.some.inj this
        rw [hv]
        cases v <;> rfl
    have dl := dL_b h1 h9 (decide (c = 46))
    have hd : ((dC52 u c : Nat) : Int) = dL u (decide (c = 46)) := by unfold dC52; omega
    obtain ⟨n, hn⟩ : ∃ n, dC52 u c = n + 1 := ⟨dC52 u c - 1, by omega⟩
    have rw1 := run_whole s o ht hg h (decide (c = 46)) hw (List.replicate n h) (by rw [List.length_replicate, hu]; omega)
    have nr := noteR_const h n (begS s h (decide (c = 46))) rfl rfl rfl
    rw [nr] at rw1
    have e1 : runK1 s (List.replicate (dC52 u c) h) = freeS { begS s h (decide (c = 46)) with ck := (begS s h (decide (c = 46))).ck + n } := by
      rw [hn, List.replicate_succ]
      exact rw1
    generalize hs1 : freeS { begS s h (decide (c = 46)) with ck := (begS s h (decide (c = 46))).ck + n } = s1 at e1
    have o1 : s1.Ok := by rw [← hs1]; exact ok_free (let q := ok_beg o h (decide (c = 46)); ⟨q.1, q.2, q.3, q.4, q.5, q.6⟩)
    have r1 : s1.rows.map (fun p => elC p.2) = s.rows.map (fun p => elC p.2) ++ [c] := by
      rw [← hs1]
      show (s.rows ++ [(s.ck, decide (c = 46))]).map _ = _
      rw [List.map_append]
      show _ ++ [elC (decide (c = 46))] = _
      rw [hel]
    have el1 : s1.el.map elC = some c := by
      rw [← hs1]
      show some (elC (decide (c = 46))) = _
      rw [hel]
    obtain ⟨s', g0, g1, g2, g3, g4, g5, g6, g7, g8, g9⟩ := run_path u h1 h9 cs hs s1 h o1 (by rw [← hs1]; exact hu) (by rw [← hs1]; rfl) (by rw [← hs1]; rfl) (by rw [← hs1]; rfl) (by rw [← hs1]; rfl) (fun d hd => hc d (List.mem_cons_of_mem _ hd)) (by
      rw [el1, ← hs1]
      exact p.2)
    refine ⟨s', ?_, g1, g2, g3, g4, g5, g6, ?_, ?_, ?_⟩
    · show runK1 s (List.replicate (dC52 u c) h ++ handF u cs hs) = _
      rw [runK1_app, e1]
      exact g0
    · rw [g7, ← hs1]
      rfl
    · rw [g8, el1]
      rfl
    · rw [g9, r1, List.append_assoc]
      all_goals rfl
/-- the whole hand -/
theorem hand_run (m : Mn) {u w : Int} (sp : SpOk u w) (cs : List Nat) (row : Row) (hc : ∀ c ∈ cs, isEl c) (p : Path m (false, false) none cs row) (hn : comesF m (lastB (false, false) row) (false, false) (lastC none cs) = none) :
    ∃ s', runK1 (initK m u w) (handF u cs row ++ [(false, false)]) = s' ∧ restF s' = true ∧ s'.rows.map (fun p => elC p.2) = cs := by
  have o : (initK m u w).Ok := ⟨Int.le_refl 0, Int.le_refl 0, sp.u1, sp.u9, sp.w1, sp.w2⟩
  obtain ⟨s, g0, g1, g2, g3, g4, g5, g6, g7, g8, g9⟩ := run_path u sp.u1 sp.u9 cs row (initK m u w) (false, false) o rfl rfl rfl rfl rfl hc p
  have hw : wishF s false false = none := by
    have := wish_comes s (lastB (false, false) row) (false, false) g5 g6
    rw [g8, g7] at this
    have h2 : comesF m (lastB (false, false) row) (false, false) (lastC none cs) = (wishF s false false).map elC := this
    rw [hn] at h2
    cases e : wishF s false false with
    | none => rfl
    | some v => rw [e] at h2; cases h2
  have st := (step_none s g3 g4 (false, false) hw).1
  refine ⟨stepF s false false, by rw [runK1_app, g0]; all_goals rfl, ?_, ?_⟩
  · show restF (stepF s false false) = true
    rw [st]
    unfold restF wishF
    simp [g3, g4]
  · show (stepF s false false).rows.map _ = cs
    rw [st]
    exact g9
theorem handF_len (u : Int) (h1 : 1 ≤ u) (h9 : u ≤ 9) : ∀ (cs : List Nat) (hs : Row), hs.length = cs.length → ((handF u cs hs).length : Int) = (cs.map fun c => dL u (decide (c = 46))).sum ∧ (handF u cs hs).length ≤ 36 * cs.length
  | [], [], _ => ⟨rfl, Nat.le_refl _⟩
  | [], _ :: _, h => by simp at h
  | _ :: _, [], h => by simp at h
  | c :: cs, g :: hs, h => by
    obtain ⟨a, b⟩ := handF_len u h1 h9 cs hs (by simpa using h)
    have dl := dL_b h1 h9 (decide (c = 46))
    have hd : ((dC52 u c : Nat) : Int) = dL u (decide (c = 46)) := by unfold dC52; omega
    have e : (handF u (c :: cs) (g :: hs)).length = dC52 u c + (handF u cs hs).length := by
      show (List.replicate (dC52 u c) g ++ handF u cs hs).length = _
      rw [List.length_append, List.length_replicate]
    rw [e, List.map_cons, List.sum_cons, List.length_cons]
    constructor
    · omega
    · omega
/-! ### presses along a hand -/
theorem pres_same (h : BB) : presF h h = 0 := by
  obtain ⟨x, y⟩ := h
  cases x <;> cases y <;> rfl
theorem prs_rep (h : BB) (r : Row) : ∀ n, prs h (List.replicate n h ++ r) = prs h r
  | 0 => rfl
  | n + 1 => by
    show presF h h + prs h (List.replicate n h ++ r) = _
    rw [pres_same, prs_rep h r n]
    omega
theorem prs_hand (u : Int) (h1 : 1 ≤ u) (h9 : u ≤ 9) (t : Row) : ∀ (cs : List Nat) (hs : Row) (b : BB), hs.length = cs.length → prs b (handF u cs hs ++ t) = prs b (hs ++ t)
  | [], [], _, _ => rfl
  | [], _ :: _, _, h => by simp at h
  | _ :: _, [], _, h => by simp at h
  | c :: cs, g :: hs, b, h => by
    have dl := dL_b h1 h9 (decide (c = 46))
    obtain ⟨n, hn⟩ : ∃ n, dC52 u c = n + 1 := ⟨dC52 u c - 1, by unfold dC52; omega⟩
    show prs b ((List.replicate (dC52 u c) g ++ handF u cs hs) ++ t) = presF b g + prs g (hs ++ t)
    rw [hn, List.replicate_succ]
    show presF b g + prs g ((List.replicate n g ++ handF u cs hs) ++ t) = _
    rw [List.append_assoc, prs_rep, prs_hand u h1 h9 t cs hs g (by simpa using h)]
end
end Tk

namespace Tk
open PySem L2 Dn
section
variable [Tabl]
theorem mS_mn (m : Mn) : mS m = st (mnL m) := by cases m <;> decide +kernel
theorem mS_mnD (m : Mn) : PyData.str (mS m) = mnD m := by rw [mS_mn]
theorem haD_row (h : Row) : haD h = rowD h := rfl
theorem mul_rep (h : BB) (n : Nat) (hn : n ≤ 1000) : mulD (.list [hD h]) (.int (n : Int)) = .ok (rowD (List.replicate n h)) := by
  rw [mulD_rep _ _ (by omega) (by omega) (by rw [szN_eq]; simp; omega)]
  congr 2
  rw [Int.toNat_natCast]
  induction n with
  | zero => rfl
  | succ n ih =>
    rw [List.replicate_succ, List.flatten_cons, List.replicate_succ]
    show hD h :: (List.replicate n [hD h]).flatten = hD h :: rowL (List.replicate n h)
    rw [ih (by omega)]
theorem cut_end (L : List PD) (x : PD) : cutD (L ++ [x]) (some (-1)) none = [x] := by
  unfold cutD
  have e1 : HT.sIx (L ++ [x]).length 0 (some (-1)) = L.length := by
    show (if (-1 : Int) < 0 then ((-1 : Int) + ((L ++ [x]).length : Int)).toNat else min (-1 : Int).toNat (L ++ [x]).length) = _
    rw [if_pos (by decide), List.length_append, List.length_singleton]
    omega
  rw [e1]
  show ((L ++ [x]).drop L.length).take ((L ++ [x]).length - L.length) = [x]
  simp
theorem sp_loop {u w : Int} (sp : SpOk u w) (C S : PD) (x6 : SV) : ∀ (cs : List Nat) (hs : Row) (acc : Row) (x4 x5 : SV), (∀ c ∈ cs, isEl c) → hs.length = cs.length → acc.length + 36 * cs.length ≤ 10000 →
    ∃ y4 y5, loopF (gT 2 (gCn (gN 4) (gCn (gN 5) gNl))) lp_spread_2 (zipD (cs.map sg) (rowL hs)) [.sh C, .sh S, .sh (spD u w), .ol (rowL acc), x4, x5, x6] = .ok (.nx [.sh C, .sh S, .sh (spD u w), .ol (rowL (acc ++ handF u cs hs)), y4, y5, x6])
  | [], [], acc, x4, x5, _, _, _ => ⟨x4, x5, by rw [show handF u [] [] = [] from rfl, List.append_nil]; rfl⟩
  | [], _ :: _, _, _, _, _, h, _ => by simp at h
  | _ :: _, [], _, _, _, _, h, _ => by simp at h
  | c :: cs, h :: hs, acc, x4, x5, hc, hl, hz => by
    rw [List.length_cons] at hz
    have he := hc c List.mem_cons_self
    have dl := dL_b sp.u1 sp.u9 (decide (c = 46))
    have hd : ((dC52 u c : Nat) : Int) = dL u (decide (c = 46)) := by unfold dC52; omega
    have t1 := tone_long_eq u w c
    have t2 := gap_long_eq u w 1 (by decide)
    have ad : elU c * u + w + (u - w) = ((dC52 u c : Nat) : Int) := by
      rw [hd]
      rcases he with rfl | rfl
      · show elU 46 * u + w + (u - w) = 2 * u
        have : elU 46 = 1 := by decide
        rw [this]
        omega
      · show elU 45 * u + w + (u - w) = 4 * u
        have : elU 45 = 3 := by decide
        rw [this]
        omega
    have mr := mul_rep h (dC52 u c) (by omega)
    have e1 : ∀ LL : List PD, LL.length ≤ 10000 → lp_spread_2 [.sh C, .sh S, .sh (spD u w), .ol LL, .sh (sg c), .sh (hD h), x6] = .ok (.nx [.sh C, .sh S, .sh (spD u w), .ol (LL ++ rowL (List.replicate (dC52 u c) h)), .sh (sg c), .sh (hD h), x6]) := fun LL hLL => by
      unfold lp_spread_2
      have hlr : (rowL (List.replicate (dC52 u c) h)).length = dC52 u c := by rw [List.length_map, List.length_replicate]
      have mr2 : mulD (.list [hD h]) (.int ((dC52 u c : Nat) : Int)) = .ok (.list (rowL (List.replicate (dC52 u c) h))) := mr
      generalize rowL (List.replicate (dC52 u c) h) = RR at mr2 hlr ⊢
      have hv : d2 mulD (dN mkL (dCons (dVar 5) dNil)) (d2 addD (dCall dn_tone_long (dCons (dVar 2) (dCons (dVar 4) dNil))) (dCall dn_gap_long (dCons (dVar 2) (dCons (dC (.int 1)) dNil)))) [.sh C, .sh S, .sh (spD u w), .ol LL, .sh (sg c), .sh (hD h), x6] = .ok (.list RR) := by
        simp [mkL, szN_eq, t1, t2, ad, mr2]
      rw [sExt_ap, hv]
      have hz2 : LL.length + RR.length ≤ 1000000 := by rw [hlr]; omega
      simp [szN_eq, hz2]
    obtain ⟨y4, y5, ih⟩ := sp_loop sp C S x6 cs hs (acc ++ List.replicate (dC52 u c) h) (.sh (sg c)) (.sh (hD h)) (fun d hd => hc d (List.mem_cons_of_mem _ hd)) (by simpa using hl) (by rw [List.length_append, List.length_replicate]; omega)
    refine ⟨y4, y5, ?_⟩
    have e2 : acc ++ handF u (c :: cs) (h :: hs) = acc ++ List.replicate (dC52 u c) h ++ handF u cs hs := by rw [List.append_assoc]; all_goals rfl
    rw [e2, ← ih]
    have e3 : zipD ((c :: cs).map sg) (rowL (h :: hs)) = .tuple [sg c, hD h] :: zipD (cs.map sg) (rowL hs) := rfl
    rw [e3, loopF_cons]
    have e4 : gT 2 (gCn (gN 4) (gCn (gN 5) gNl)) (.tuple [sg c, hD h]) [.sh C, .sh S, .sh (spD u w), .ol (rowL acc), x4, x5, x6] = .ok [.sh C, .sh S, .sh (spD u w), .ol (rowL acc), .sh (sg c), .sh (hD h), x6] := rfl
    rw [e4]
    simp only [R.noexc_ok, R.bind_ok, e1 (rowL acc) (by rw [List.length_map]; omega)]
    rw [show rowL acc ++ rowL (List.replicate (dC52 u c) h) = rowL (acc ++ List.replicate (dC52 u c) h) from (List.map_append ..).symm]
theorem zip_more : ∀ (cs : List Nat) (hs t : Row), hs.length = cs.length → zipD (cs.map sg) (rowL (hs ++ t)) = zipD (cs.map sg) (rowL hs)
  | [], [], t, _ => by unfold zipD; rfl
  | [], _ :: _, _, h => by simp at h
  | _ :: _, [], _, h => by simp at h
  | c :: cs, h :: hs, t, hl => by
    show PyData.tuple [sg c, hD h] :: zipD (cs.map sg) (rowL (hs ++ t)) = PyData.tuple [sg c, hD h] :: zipD (cs.map sg) (rowL hs)
    rw [zip_more cs hs t (by simpa using hl)]
theorem keys_all (x0 x1 x2 x3 x4 x5 : SV) (r : Row) : lcL (gN 6) dYes ce_spread_1 [x0, x1, x2, x3, x4, x5, .no] (rowL r) = .ok (r.map fun _ => .bool true) := by
  refine lcL_mapM hD (fun _ => .bool true) r fun h _ => ⟨_, rfl, ?_⟩
  have := are_keys_eq h
  unfold ce_spread_1
  simp [show hD h = kyD h from rfl, this]
theorem need_code52 {l : List Nat} (h : codeB l = true) : dn_need_code [.str (st l)] = .ok .none := by
  have hl : l.length ≤ 6 := by
    unfold codeB at h
    rw [Bool.and_eq_true, Bool.and_eq_true] at h
    exact of_decide_eq_true h.1.2
  unfold dn_need_code runB bd_need_code
  simp [is_code_st l (by rw [szN_eq]; omega), h]
theorem code_isEl {l : List Nat} (h : codeB l = true) : l.length ≤ 6 ∧ 1 ≤ l.length ∧ ∀ c ∈ l, isEl c := by
  unfold codeB at h
  rw [Bool.and_eq_true, Bool.and_eq_true] at h
  refine ⟨of_decide_eq_true h.1.2, of_decide_eq_true h.1.1, fun c hc => ?_⟩
  have := List.all_eq_true.mp h.2 c hc
  unfold elB at this
  have := of_decide_eq_true this
  simpa [isEl] using this
theorem spread_eq {u w : Int} (sp : SpOk u w) (cs : List Nat) (hcs : codeB cs = true) (hs : Row) (hl : hs.length = cs.length) (f : BB) :
    dn_spread [.str (st cs), rowD (hs ++ [f]), spD u w] = .ok (rowD (handF u cs hs ++ [f])) := by
  obtain ⟨six, one, hel⟩ := code_isEl hcs
  obtain ⟨y4, y5, lo⟩ := sp_loop sp (.str (st cs)) (rowD (hs ++ [f])) .no cs hs [] .no .no hel hl (by simp; omega)
  rw [List.nil_append] at lo
  have hn := need_code52 hcs
  have hsp := need_speed_ok sp
  obtain ⟨_, hhl⟩ := handF_len u sp.u1 sp.u9 cs hs hl
  have ka := keys_all (.sh (.str (st cs))) (.sh (rowD (hs ++ [f]))) (.sh (spD u w)) .no .no .no (hs ++ [f])
  have ck := chk_ok ((hs ++ [f]).map fun _ => PyData.bool true) (by rw [List.length_map, List.length_append, szN_eq]; simp; omega)
  have al : allD [.list ((hs ++ [f]).map fun _ => .bool true)] = .ok (.bool true) := by
    have := allD_of (fun _ : BB => true) (hs ++ [f])
    rw [this]
    simp
  have l1 : lenD [rowD (hs ++ [f])] = .ok (.int ((cs.length : Int) + 1)) := by
    rw [lenD_list, List.length_map, List.length_append, hl]
    simp
  have l2 : lenD [.str (st cs)] = .ok (.int (cs.length : Int)) := by rw [lenD_str (st cs) (by rw [st_len, szN_eq]; omega), st_len]
  have il : isListD (rowD (hs ++ [f])) = true := rfl
  have zz := zip_more cs hs [f] hl
  have sz : zipM [.str (st cs), rowD (hs ++ [f])] = .ok (zipD (cs.map sg) (rowL hs)) := by
    rw [← zz]
    rfl
  have sl : cutD (rowL (hs ++ [f])) (some (-1)) none = [hD f] := by
    have e : rowL (hs ++ [f]) = rowL hs ++ [hD f] := List.map_append ..
    rw [e]
    exact cut_end _ _
  have slD1 : slD (rowD (hs ++ [f])) (some (-1)) none = .ok (.list [hD f]) := by
    show R.ok (PyData.list (cutD (rowL (hs ++ [f])) (some (-1)) none)) = _
    rw [sl]
  have fin : addD (.list (rowL (handF u cs hs))) (.list [hD f]) = .ok (rowD (handF u cs hs ++ [f])) := by
    show (if (rowL (handF u cs hs)).length + 1 ≤ szN then R.ok (PyData.list (rowL (handF u cs hs) ++ [hD f])) else R.stuck) = _
    rw [if_pos (by rw [List.length_map, szN_eq]; omega)]
    simp
  have ng : negD (.int 1) = .ok (.int (-1)) := rfl
  have ne : neD (.int ((cs.length : Int) + 1)) (.int ((cs.length : Int) + 1)) = .ok (.bool false) := by rw [neD_int]; simp
  obtain ⟨RL, hRL⟩ : ∃ RL, rowD (hs ++ [f]) = .list RL := ⟨_, rfl⟩
  have hRL2 : rowL (hs ++ [f]) = RL := PyData.list.inj hRL
  rw [hRL] at l1 il sz slD1 lo ka ⊢
  rw [hRL2] at ka
  generalize rowD (handF u cs hs ++ [f]) = FIN at *
  generalize rowL (handF u cs hs) = HL at *
  generalize (hs ++ [f]).map (fun _ => PyData.bool true) = BT at *
  clear hRL hRL2 sl zz
  unfold dn_spread runB bd_spread
  have s2 : sIf (dOr (dNot (dTest (d1 (isiD isListD) (dVar 1)))) (dOr (dTest (d2 neD (dN lenD (dCons (dVar 1) dNil)) (d2 addD (dN lenD (dCons (dVar 0) dNil)) (dC (.int 1))))) (dNot (dTest (dN allD (dCons (dF (dLc (dIt asL (dVar 1)) (gN 6) dYes ce_spread_1 [6])) dNil)))))) (sRaise "BadHand") sNil [.sh (.str (st cs)), .sh (.list RL), .sh (spD u w), .no, .no, .no, .no] = .ok (.nx [.sh (.str (st cs)), .sh (.list RL), .sh (spD u w), .no, .no, .no, .no]) := by
    simp [il, l1, l2, dLc, free, wipeE, asL, ka, ck, al, -lenD_list]
  have s1 : sDrop (dCall dn_need_code (dCons (dVar 0) dNil)) [.sh (.str (st cs)), .sh (.list RL), .sh (spD u w), .no, .no, .no, .no] = .ok (.nx [.sh (.str (st cs)), .sh (.list RL), .sh (spD u w), .no, .no, .no, .no]) := by simp [hn]
  have s3 : sDrop (dCall dn_need_speed (dCons (dVar 2) dNil)) [.sh (.str (st cs)), .sh (.list RL), .sh (spD u w), .no, .no, .no, .no] = .ok (.nx [.sh (.str (st cs)), .sh (.list RL), .sh (spD u w), .no, .no, .no, .no]) := by simp [hsp]
  have s4 : sAsgF 3 (dLst dNil) [.sh (.str (st cs)), .sh (.list RL), .sh (spD u w), .no, .no, .no, .no] = .ok (.nx [.sh (.str (st cs)), .sh (.list RL), .sh (spD u w), .ol (rowL []), .no, .no, .no]) := rfl
  show R.bind (sSeq _ _ [.sh (.str (st cs)), .sh (.list RL), .sh (spD u w), .no, .no, .no, .no]) _ = _
  rw [sSeq_ap, s1]
  simp only [R.bind_ok]
  rw [sSeq_ap, s2]
  simp only [R.bind_ok]
  rw [sSeq_ap, s3]
  simp only [R.bind_ok]
  rw [sSeq_ap, s4]
  simp only [R.bind_ok]
  rw [sSeq_ap, sFor_ap]
  have sz2 : dItA zipM (dCons (dVar 0) (dCons (dVar 1) dNil)) [.sh (.str (st cs)), .sh (.list RL), .sh (spD u w), .ol (rowL []), .no, .no, .no] = .ok (zipD (cs.map sg) (rowL hs)) := sz
  rw [sz2]
  simp only [R.bind_ok]
  rw [lo]
  simp only [R.bind_ok]
  generalize PyData.list RL = RD at *
  simp [slD1, ng, fin]
end
end Tk

namespace Tk
open PySem L2 Dn
section
variable [Tabl]
/-! ### what is told -/
def noEq (cs : List Nat) : Bool := (cs.zip cs.tail).all fun p => decide (p.1 ≠ p.2)
def okG (m : Mn) (n : Nat) : Bool := match holdsF m (codeOf n) with
  | x :: xs => match PySem.W.minD (cr x) (xs.map cr) with
    | .tuple [.int a, _] => decide (1 ≤ a) && decide (a ≤ ((codeOf n).length : Int)) && (match lenT (.str (st (codeOf n))) with | .ok (.int q) => decide (q ≠ 1) || decide (a = 1) | _ => false) && (decide (m = .p) || !noEq (codeOf n) || decide (a ≤ 2))
    | _ => false
  | [] => false
theorem all_okG : ∀ m : Mn, ∀ n, 2 ≤ n → n < 128 → okG m n = true := by
  have h : ∀ m : Mn, (List.range 128).all (fun n => decide (n < 2) || okG m n) = true := fun m => by cases m <;> decide +kernel
  intro m n h1 h2
  have := List.all_eq_true.mp (h m) n (List.mem_range.mpr h2)
  rw [Bool.or_eq_true] at this
  rcases this with z | z
  · have := of_decide_eq_true z
    omega
  · exact z
theorem need_manner52 (m : Mn) : dn_need_manner [.str (mS m)] = .ok .none := by cases m <;> kernel_rfl
theorem endsF_len52 {n : Nat} (m : Mn) (t : Tb) (l : Option Nat) (h : LenT n t) : ∀ x ∈ endsF m t l, x.2.length = n + 1 := fun x hx => by
  unfold endsF at hx
  obtain ⟨e, he, rfl⟩ := List.mem_map.mp hx
  rw [List.length_append, h e (List.mem_filter.mp he).1]
  rfl
theorem told52 (m : Mn) (n : Nat) (h2 : 2 ≤ n) (hn : n < 128) : ∃ (row : Row) (q : Int), dn_fewest [.str (mS m), .str (st (codeOf n))] = .ok (.int (prs (false, false) row)) ∧ dn_holds [.str (mS m), .str (st (codeOf n))] = .ok (rowD (row ++ [(false, false)])) ∧
    Path m (false, false) none (codeOf n) row ∧ comesF m (lastB (false, false) row) (false, false) (lastC none (codeOf n)) = none ∧ 1 ≤ prs (false, false) row ∧ prs (false, false) row ≤ ((codeOf n).length : Int) ∧
    lenT (.str (st (codeOf n))) = .ok (.int q) ∧ (q = 1 → prs (false, false) row = 1) ∧ (m ≠ .p → noEq (codeOf n) = true → prs (false, false) row ≤ 2) := by
  have ok := all_okG m n h2 hn
  have good := codes_good n h2 hn
  obtain ⟨six, _, _⟩ := code_isEl good
  have hl : ∀ x ∈ holdsF m (codeOf n), x.2.length = 0 + (codeOf n).length + 1 := endsF_len52 m _ _ (tabF_len m (codeOf n) 0 [((false, false), (0, []))] none fun e he => by rw [List.mem_singleton.mp he]; rfl)
  have hf : ∀ {v : PD}, minA [.list ((holdsF m (codeOf n)).map cr)] = .ok v → dn_holds_for [.str (mS m), .str (st (codeOf n))] = .ok v := fun {v} h => holds_for_eq m (codeOf n) (by omega) h
  have hp := holdsF_path m (codeOf n)
  unfold okG at ok
  cases e1 : holdsF m (codeOf n) with
  | nil => rw [e1] at ok; cases ok
  | cons x xs =>
    rw [e1] at ok hf hl hp
    dsimp only at ok
    have oo : ordOk ((x :: xs).map cr) = true := ordOk_of (fun d hd => by
      obtain ⟨y, _, rfl⟩ := List.mem_map.mp hd
      exact ordOne_cr y) (fun d hd e he => by
      obtain ⟨y, hy, rfl⟩ := List.mem_map.mp hd
      obtain ⟨z, hz, rfl⟩ := List.mem_map.mp he
      exact sal_cr (by rw [hl y hy, hl z hz]))
    have m1 : minA [.list ((x :: xs).map cr)] = .ok (PySem.W.minD (cr x) (xs.map cr)) := by
      show (if ordOk (cr x :: xs.map cr) = true then R.ok (PySem.W.minD (cr x) (xs.map cr)) else R.stuck) = _
      rw [if_pos (by rw [← List.map_cons]; exact oo)]
    have hm := minD_mem (cr x) (xs.map cr)
    rw [← List.map_cons] at hm
    obtain ⟨y, hy, ey⟩ := List.mem_map.mp hm
    obtain ⟨row, rfl, p1, p2⟩ := hp y hy
    have hv := hf m1
    rw [← ey] at hv ok
    dsimp only at ok
    rw [Bool.and_eq_true, Bool.and_eq_true, Bool.and_eq_true] at ok
    obtain ⟨⟨⟨o1, o2⟩, o3⟩, o4⟩ := ok
    cases hq : lenT (.str (st (codeOf n))) with
    | ok d =>
      rw [hq] at o3
      cases d with
      | int q =>
        dsimp only at o3
        refine ⟨row, q, ?_, ?_, p1, p2, of_decide_eq_true o1, of_decide_eq_true o2, rfl, fun z => ?_, fun z1 z2 => ?_⟩
        · unfold dn_fewest runB bd_fewest
          simp [need_manner52, need_code52 good, hv]
        · unfold dn_holds runB bd_holds
          simp [need_manner52, need_code52 good, hv]
        · rw [Bool.or_eq_true] at o3
          rcases o3 with o3 | o3
          · exact absurd z (of_decide_eq_true o3)
          · exact of_decide_eq_true o3
        · rw [z2, decide_eq_false z1] at o4
          exact of_decide_eq_true (by simpa using o4)
      | _ => cases o3
    | exc c => rw [hq] at o3; cases o3
    | stuck => rw [hq] at o3; cases o3
/-! ### the presses counted -/
theorem cnt_turn (b h : BB) (c : Int) (x0 x1 x2 x3 x4 x5 x6 x7 x8 x9 x13 x14 x15 x16 x17 x18 x19 : SV) :
    lp_law_1 [x0, x1, x2, x3, x4, x5, x6, x7, x8, x9, .sh (hD b), .sh (.int c), .sh (hD h), x13, x14, x15, x16, x17, x18, x19] = .ok (.nx [x0, x1, x2, x3, x4, x5, x6, x7, x8, x9, .sh (hD h), .sh (.int (c + presF b h)), .sh (hD h), x13, x14, x15, x16, x17, x18, x19]) := by
  obtain ⟨z, w⟩ := h
  obtain ⟨u, v⟩ := b
  unfold lp_law_1
  cases z <;> cases w <;> cases u <;> cases v <;> simp [presF, intD] <;> omega
theorem cnt_loop (x0 x1 x2 x3 x4 x5 x6 x7 x8 x9 x13 x14 x15 x16 x17 x18 x19 : SV) : ∀ (r : Row) (b : BB) (c : Int) (x12 : SV), ∃ y12, loopF (gN 12) lp_law_1 (rowL r) [x0, x1, x2, x3, x4, x5, x6, x7, x8, x9, .sh (hD b), .sh (.int c), x12, x13, x14, x15, x16, x17, x18, x19] = .ok (.nx [x0, x1, x2, x3, x4, x5, x6, x7, x8, x9, .sh (hD (lastB b r)), .sh (.int (c + prs b r)), y12, x13, x14, x15, x16, x17, x18, x19])
  | [], b, c, x12 => ⟨x12, by rw [show prs b [] = 0 from rfl, Int.add_zero]; rfl⟩
  | h :: r, b, c, x12 => by
    obtain ⟨y12, ih⟩ := cnt_loop x0 x1 x2 x3 x4 x5 x6 x7 x8 x9 x13 x14 x15 x16 x17 x18 x19 r h (c + presF b h) (.sh (hD h))
    refine ⟨y12, ?_⟩
    rw [show rowL (h :: r) = hD h :: rowL r from rfl, loopF_cons, show prs b (h :: r) = presF b h + prs h r from rfl, ← Int.add_assoc, show lastB b (h :: r) = lastB h r from rfl, ← ih]
    simp only [gN_ap, R.noexc_ok, R.bind_ok, List.set_cons_succ, List.set_cons_zero, cnt_turn]
end
end Tk

namespace Tk
open PySem L2 Dn
variable [Tabl]
theorem law_tone_el (u w : Int) (e : Bool) (h : u < 100 ∧ -100 < u) : dn__law_tone [spD u w, elD (some e)] = .ok (.int (tnL u w e)) := by
  have h3 : mulD (.int u) (.int 3) = .ok (.int (u * 3)) := mulD_sl u 3 (by omega) (by omega)
  have h1 : mulD (.int u) (.int 1) = .ok (.int (u * 1)) := mulD_sl u 1 (by omega) (by omega)
  have i0 : ixD (spD u w) (.int 0) = .ok (.int u) := rfl
  have i1 : ixD (spD u w) (.int 1) = .ok (.int w) := rfl
  unfold dn__law_tone runB sNx bd__law_tone
  cases e <;> simp [c_dash, elL, st_eq, h1, h3, i0, i1, tnL] <;> omega
end Tk

namespace Tk
open PySem L2 Dn
section
variable [Tabl]
theorem fin_rest (s : Kst) (h : restF s = true) : fin 400 s = (s, []) := fin_of 400 0 s (by decide) h (fun j hj => absurd hj (Nat.not_lt_zero j))
theorem lcL_f52 {tg : PD → En → R En} {ft : En → R Bool} {fe : En → R PD} {en : En} {α : Type} (enc F : α → PD) (p : α → Bool) : ∀ l : List α, (∀ a ∈ l, ∃ e, tg (enc a) en = .ok e ∧ ft e = .ok (p a) ∧ fe e = .ok (F a)) → lcL tg ft fe en (l.map enc) = .ok ((l.filter p).map F)
  | [], _ => rfl
  | a :: l, h => by
    obtain ⟨e, h1, h2, h3⟩ := h a List.mem_cons_self
    have ih := lcL_f52 enc F p l fun b hb => h b (List.mem_cons_of_mem _ hb)
    rw [List.map_cons]
    unfold lcL
    simp only [h1, R.noexc_ok, R.bind_ok, h2]
    cases hp : p a with
    | true =>
      rw [List.filter_cons_of_pos hp, List.map_cons, ih]
      simp [h3]
    | false =>
      rw [List.filter_cons_of_neg (by rw [hp]; decide), ih]
theorem zip_drop : ∀ cs : List Nat, cs.dropLast.zip cs.tail = cs.zip cs.tail
  | [] => rfl
  | [_] => rfl
  | a :: b :: r => by
    have := zip_drop (b :: r)
    show (a :: (b :: r).dropLast).zip (b :: r) = (a :: b :: r).zip (b :: r)
    rw [List.zip_cons_cons, List.zip_cons_cons]
    rw [List.tail_cons] at this
    rw [this]
/-- code[:-1], code[1:] side by side -/
theorem zip_code (cs : List Nat) (h : cs.length ≤ 100) (x0 x1 x2 x3 x4 x6 x7 x8 x9 x10 x11 x12 x13 x14 x15 x16 x17 x18 x19 : SV) : dItA zipT (dCons (dSl (dVar 5) dOno (dOso (d1 negD (dC (.int 1))))) (dCons (dSl (dVar 5) (dOso (dC (.int 1))) dOno) dNil)) [x0, x1, x2, x3, x4, .sh (.str (st cs)), x6, x7, x8, x9, x10, x11, x12, x13, x14, x15, x16, x17, x18, x19] = .ok ((cs.zip cs.tail).map fun p => .tuple [sg p.1, sg p.2]) := by
  have ln : (st cs).length = cs.length := st_len cs
  have a1 : slD (.str (st cs)) none (some (-1)) = .ok (.str (st cs.dropLast)) := by
    show (if (st cs).length ≤ szN then R.ok (PyData.str (cutS (st cs) none (some (-1)))) else R.stuck) = _
    rw [if_pos (by rw [ln, szN_eq]; omega)]
    unfold cutS
    rw [HT.sIx_none, List.drop_zero, Nat.sub_zero, ln]
    have e1 : HT.sIx cs.length cs.length (some (-1)) = cs.length - 1 := by
      show (if (-1 : Int) < 0 then ((-1 : Int) + (cs.length : Int)).toNat else min (-1 : Int).toNat cs.length) = _
      rw [if_pos (by decide)]
      omega
    rw [e1]
    show R.ok (PyData.str (st (cs.take (cs.length - 1)))) = _
    rw [List.dropLast_eq_take]
  have a2 : slD (.str (st cs)) (some 1) none = .ok (.str (st cs.tail)) := by
    show (if (st cs).length ≤ szN then R.ok (PyData.str (cutS (st cs) (some 1) none)) else R.stuck) = _
    rw [if_pos (by rw [ln, szN_eq]; omega)]
    unfold cutS
    rw [HT.sIx_none, ln]
    have e1 : HT.sIx cs.length 0 (some 1) = min 1 cs.length := HT.sIx_nat cs.length 0 1
    rw [e1]
    show R.ok (PyData.str (st ((cs.drop (min 1 cs.length)).take (cs.length - min 1 cs.length)))) = _
    rw [List.take_of_length_le (by rw [List.length_drop]; omega)]
    cases cs <;> simp
  have ng : negD (.int 1) = .ok (.int (-1)) := rfl
  have zp : zipT [.str (st cs.dropLast), .str (st cs.tail)] = .ok ((cs.zip cs.tail).map fun p => .tuple [sg p.1, sg p.2]) := by
    show R.ok (zipD (signL (st cs.dropLast)) (signL (st cs.tail))) = _
    congr 1
    show ((cs.dropLast.map sg).zip (cs.tail.map sg)).map _ = _
    rw [List.zip_map, List.map_map, zip_drop]
    rfl
  simp [a1, a2, ng, zp]
theorem len_row (r : Row) : lenD [rowD r] = .ok (.int (r.length : Int)) := by rw [lenD_list, List.length_map]
theorem size_lc (x0 x1 x2 x3 x4 x5 : SV) {u w : Int} (sp : SpOk u w) (x7 x8 x9 x10 x11 x12 x13 x14 x15 x16 : SV) (cs : List Nat) (hc : ∀ c ∈ cs, isEl c) : lcL (gN 17) dYes ce_law_2 [x0, x1, x2, x3, x4, x5, .sh (spD u w), x7, x8, x9, x10, x11, x12, x13, x14, x15, x16, .no, .no, .no] (cs.map sg) = .ok (cs.map fun c => .int (dL u (decide (c = 46)))) := by
  refine lcL_mapM sg (fun c => .int (dL u (decide (c = 46)))) cs fun c hcc => ⟨_, rfl, ?_⟩
  have h1 := sp.u1
  have h2 := sp.u9
  have t1 : dn__law_tone [spD u w, sg c] = .ok (.int (tnL u w (decide (c = 46)))) := by
    have q := law_tone_el u w (decide (c = 46)) ⟨by omega, by omega⟩
    rcases hc c hcc with rfl | rfl
    · exact q
    · exact q
  have e : tnL u w (decide (c = 46)) + u - w = dL u (decide (c = 46)) := by
    have := dL_eq u w (decide (c = 46))
    omega
  unfold ce_law_2
  simp [t1, e]
theorem turn5 (m : Mn) (n : Nat) (h2 : 2 ≤ n) (hn : n < 128) {u w : Int} (sp : SpOk u w) (x0 x1 x2 x3 x4 x8 x9 x10 x11 x12 x13 x14 x15 x16 : SV) :
    ∃ (R : Row) (y9 y10 y11 y12 y13 y14 : SV), R.length = (codeOf n).length + 1 ∧ lp_law_5 [x0, x1, x2, x3, x4, .sh (.str (st (codeOf n))), .sh (spD u w), .sh (.str (mS m)), x8, x9, x10, x11, x12, x13, x14, x15, x16, .no, .no, .no] = .ok (.nx [x0, x1, x2, x3, x4, .sh (.str (st (codeOf n))), .sh (spD u w), .sh (.str (mS m)), .sh (rowD R), y9, y10, y11, y12, y13, y14, x15, x16, .no, .no, .no]) := by
  obtain ⟨row, q, f1, f2, p1, p2, c1, c2, l1, l2, l3⟩ := told52 m n h2 hn
  have good := codes_good n h2 hn
  obtain ⟨six, one, hel⟩ := code_isEl good
  have rl := path_len m _ _ _ _ p1
  have spr := spread_eq sp (codeOf n) good row rl (false, false)
  obtain ⟨s', r1, r2, r3⟩ := hand_run m sp (codeOf n) row hel p1 p2
  obtain ⟨hl1, hl2⟩ := handF_len u sp.u1 sp.u9 (codeOf n) row rl
  have hfin := fin_rest s' r2
  have hr : restF (fin 400 (runK1 (initK m u w) (handF u (codeOf n) row ++ [(false, false)]))).1 = true := by rw [r1, hfin]; exact r2
  have hlen : (handF u (codeOf n) row ++ [(false, false)]).length ≤ 600 := by rw [List.length_append]; simp; omega
  have am := all_made_eq m sp (handF u (codeOf n) row ++ [(false, false)]) hlen hr
  have pl := played_eq m sp (handF u (codeOf n) row ++ [(false, false)]) hlen hr
  rw [r1, hfin] at am pl
  rw [r3] at am
  rw [← mS_mnD, haD_row] at am pl
  have tl := tonesK_len (handF u (codeOf n) row ++ [(false, false)]) (initK m u w)
  have lp : lenD [.list ((tonesK (initK m u w) (handF u (codeOf n) row ++ [(false, false)]) ++ []).map .bool)] = .ok (.int (((codeOf n).map fun c => dL u (decide (c = 46))).sum + 1)) := by
    rw [lenD_list, List.length_map, List.append_nil, tl, List.length_append]
    simp
    omega
  have lh : lenD [rowD (handF u (codeOf n) row ++ [(false, false)])] = .ok (.int (((codeOf n).map fun c => dL u (decide (c = 46))).sum + 1)) := by
    rw [len_row, List.length_append]
    simp
    omega
  have lt : lenD [rowD (row ++ [(false, false)])] = .ok (.int (((codeOf n).length : Int) + 1)) := by
    rw [len_row, List.length_append, rl]
    simp
  have lc : lenD [.str (st (codeOf n))] = .ok (.int ((codeOf n).length : Int)) := by rw [lenD_str (st (codeOf n)) (by rw [st_len, szN_eq]; omega), st_len]
  have ixl : ixD (rowD (row ++ [(false, false)])) (.int (-1)) = .ok (hD (false, false)) := by
    refine ixD_list _ _ _ ?_
    unfold atI
    simp [ixN]
    rw [if_pos (by omega)]
    have e : (-1 + ((row.length : Int) + 1)).toNat = row.length := by omega
    rw [e]
    simp
  have pc : prs (false, false) (handF u (codeOf n) row ++ [(false, false)]) = prs (false, false) row := by
    rw [prs_hand u sp.u1 sp.u9 [(false, false)] (codeOf n) row (false, false) rl, prs_snoc]
    have : ∀ b : BB, presF b (false, false) = 0 := fun b => by obtain ⟨x, y⟩ := b; cases x <;> cases y <;> rfl
    rw [this]
    omega
  have nFF := ne_hD (false, false) (false, false)
  have sg1 := signs_st (codeOf n)
  have nz : ∀ (x8 x9 x10 x11 x12 x13 x14 : SV), dItA zipT (dCons (dSl (dVar 5) dOno (dOso (d1 negD (dC (.int 1))))) (dCons (dSl (dVar 5) (dOso (dC (.int 1))) dOno) dNil)) [x0, x1, x2, x3, x4, .sh (.str (st (codeOf n))), .sh (spD u w), .sh (.str (mS m)), x8, x9, x10, x11, x12, x13, x14, x15, x16, .no, .no, .no] = _ := fun x8 x9 x10 x11 x12 x13 x14 => zip_code (codeOf n) (by omega) x0 x1 x2 x3 x4 (.sh (spD u w)) (.sh (.str (mS m))) x8 x9 x10 x11 x12 x13 x14 x15 x16 .no .no .no
  have zl : ∀ (x8 x9 x10 x11 x12 x13 x14 : SV), lcL (gT 2 (gCn (gN 18) (gCn (gN 19) gNl))) cc_law_4 ce_law_3 [x0, x1, x2, x3, x4, .sh (.str (st (codeOf n))), .sh (spD u w), .sh (.str (mS m)), x8, x9, x10, x11, x12, x13, x14, x15, x16, .no, .no, .no] (((codeOf n).zip (codeOf n).tail).map fun p => .tuple [sg p.1, sg p.2]) = .ok ((((codeOf n).zip (codeOf n).tail).filter fun p => decide (p.1 = p.2)).map fun _ => .int 1) := fun x8 x9 x10 x11 x12 x13 x14 => lcL_f52 (fun p : Nat × Nat => .tuple [sg p.1, sg p.2]) (fun _ => .int 1) (fun p => decide (p.1 = p.2)) _ fun p _ => ⟨_, rfl, by
    have := eq_oS (some p.1) (some p.2)
    unfold cc_law_4
    have e2 : eqD (sg p.1) (sg p.2) = .ok (.bool (decide (p.1 = p.2))) := by
      rw [show (sg p.1 : PD) = .str (oS (some p.1)) from rfl, show (sg p.2 : PD) = .str (oS (some p.2)) from rfl, this]
      simp
    simp [e2, -eqD_str], rfl⟩
  have szc := size_lc x0 x1 x2 x3 x4 (.sh (.str (st (codeOf n)))) sp
  have nq : noEq (codeOf n) = (((codeOf n).zip (codeOf n).tail).filter fun p => decide (p.1 = p.2)).isEmpty := by
    unfold noEq
    generalize (codeOf n).zip (codeOf n).tail = Z
    induction Z with
    | nil => rfl
    | cons a Z ih =>
      rw [List.all_cons, ih]
      by_cases h : a.1 = a.2
      · rw [List.filter_cons_of_pos (by simpa using h)]
        simp [h]
      · rw [List.filter_cons_of_neg (by simpa using h)]
        simp [h]
  have fl : (((codeOf n).zip (codeOf n).tail).filter fun p => decide (p.1 = p.2)).length ≤ 6 := by
    refine Nat.le_trans (List.length_filter_le _ _) ?_
    rw [List.length_zip]
    omega
  generalize hF : ((codeOf n).zip (codeOf n).tail).filter (fun p => decide (p.1 = p.2)) = F at *
  have ck := chk_ok (F.map fun _ => PyData.int 1) (by rw [List.length_map, szN_eq]; omega)
  have ck2 := chk_ok ((codeOf n).map fun c => PyData.int (dL u (decide (c = 46)))) (by rw [List.length_map, szN_eq]; omega)
  have sm := sumD_of (fun c : Nat => dL u (decide (c = 46))) (codeOf n)
  have eF : eqD (.list (F.map fun _ => .int 1)) (.list []) = .ok (.bool F.isEmpty) := by
    match F, fl with
    | [], _ => rfl
    | [_], _ => rfl
    | [_, _], _ => rfl
    | [_, _, _], _ => rfl
    | [_, _, _, _], _ => rfl
    | [_, _, _, _, _], _ => rfl
    | [_, _, _, _, _, _], _ => rfl
    | _ :: _ :: _ :: _ :: _ :: _ :: _ :: _, h => simp at h
  have nmp : neD (.str (mS m)) (.str "plain") = .ok (.bool (!decide (m = .p))) := by rw [neD_str, mS_plain]
  obtain ⟨y12, cl⟩ := cnt_loop x0 x1 x2 x3 x4 (.sh (.str (st (codeOf n)))) (.sh (spD u w)) (.sh (.str (mS m))) (.sh (rowD (row ++ [(false, false)]))) (.sh (rowD (handF u (codeOf n) row ++ [(false, false)]))) x13 x14 x15 x16 .no .no .no (handF u (codeOf n) row ++ [(false, false)]) (false, false) 0 x12
  rw [pc, Int.zero_add] at cl
  refine ⟨row ++ [(false, false)], .sh (rowD (handF u (codeOf n) row ++ [(false, false)])), .sh (hD (lastB (false, false) (handF u (codeOf n) row ++ [(false, false)]))), .sh (.int (prs (false, false) row)), y12, .sh (.int ((codeOf n).map fun c => dL u (decide (c = 46))).sum), .sh (.list (F.map fun _ => .int 1)), by rw [List.length_append, rl]; rfl, ?_⟩
  have zl2 := fun (x8 x9 x10 x11 x12 x13 x14 : SV) => zl x8 x9 x10 x11 x12 x13 x14
  obtain ⟨HH, hHH⟩ : ∃ HH, rowD (handF u (codeOf n) row ++ [(false, false)]) = .list HH := ⟨_, rfl⟩
  have hHH2 : rowL (handF u (codeOf n) row ++ [(false, false)]) = HH := PyData.list.inj hHH
  rw [hHH] at spr am pl lh cl ⊢
  rw [hHH2] at cl
  generalize hD (lastB (false, false) (handF u (codeOf n) row ++ [(false, false)])) = LB at cl ⊢
  generalize PyData.list ((tonesK (initK m u w) (handF u (codeOf n) row ++ [(false, false)]) ++ []).map .bool) = PLY at pl lp
  clear hHH hHH2
  generalize rowD (row ++ [(false, false)]) = TD at *
  generalize hcnt : prs (false, false) row = cnt at *
  generalize hsum : ((codeOf n).map fun c => dL u (decide (c = 46))).sum = SM at *
  generalize hln : ((codeOf n).length : Int) = LN at *
  generalize hcd : st (codeOf n) = CD at *
  generalize hsg : (codeOf n).map sg = SGS at *
  generalize hdl : (codeOf n).map (fun c => PyData.int (dL u (decide (c = 46)))) = DLS at *
  generalize hzz : ((codeOf n).zip (codeOf n).tail).map (fun p => PyData.tuple [sg p.1, sg p.2]) = ZZ at *
  generalize hfm : F.map (fun _ => PyData.int 1) = FM at *
  generalize hms : mS m = MS at *
  unfold lp_law_5
  have s1 : sAsg 8 (dCall dn_holds (dCons (dVar 7) (dCons (dVar 5) dNil))) [x0, x1, x2, x3, x4, .sh (.str CD), .sh (spD u w), .sh (.str MS), x8, x9, x10, x11, x12, x13, x14, x15, x16, .no, .no, .no] = .ok (.nx [x0, x1, x2, x3, x4, .sh (.str CD), .sh (spD u w), .sh (.str MS), .sh TD, x9, x10, x11, x12, x13, x14, x15, x16, .no, .no, .no]) := by simp [f2]
  have s2 : sAsg 9 (dCall dn_spread (dCons (dVar 5) (dCons (dVar 8) (dCons (dVar 6) dNil)))) [x0, x1, x2, x3, x4, .sh (.str CD), .sh (spD u w), .sh (.str MS), .sh TD, x9, x10, x11, x12, x13, x14, x15, x16, .no, .no, .no] = .ok (.nx [x0, x1, x2, x3, x4, .sh (.str CD), .sh (spD u w), .sh (.str MS), .sh TD, .sh (.list HH), x10, x11, x12, x13, x14, x15, x16, .no, .no, .no]) := by simp [spr]
  rw [sSeq_ap, s1]
  simp only [R.bind_ok]
  rw [sSeq_ap, s2]
  simp only [R.bind_ok]
  have ng : negD (.int 1) = .ok (.int (-1)) := rfl
  rw [sSeq_ap, show (sIf (dOr (dTest (d2 neD (dCall dn_all_made (dCons (dVar 7) (dCons (dVar 6) (dCons (dVar 9) dNil)))) (dVar 5))) (dOr (dTest (d2 neD (dN lenD (dCons (dVar 8) dNil)) (d2 addD (dN lenD (dCons (dVar 5) dNil)) (dC (.int 1))))) (dTest (d2 neD (d2 ixD (dVar 8) (d1 negD (dC (.int 1)))) (dN mkT (dCons (dC (.bool false)) (dCons (dC (.bool false)) dNil))))))) (sRet (dC (.bool false))) sNil) [x0, x1, x2, x3, x4, .sh (.str CD), .sh (spD u w), .sh (.str MS), .sh TD, .sh (.list HH), x10, x11, x12, x13, x14, x15, x16, .no, .no, .no] = .ok (.nx [x0, x1, x2, x3, x4, .sh (.str CD), .sh (spD u w), .sh (.str MS), .sh TD, .sh (.list HH), x10, x11, x12, x13, x14, x15, x16, .no, .no, .no]) by
    simp [am, lt, lc, ixl, ng, mkT, szN_eq, nFF]]
  simp only [R.bind_ok]
  rw [sSeq_ap, show (sAsgG (gT 2 (gCn (gN 10) (gCn (gN 11) gNl))) (dN mkT (dCons (dN mkT (dCons (dC (.bool false)) (dCons (dC (.bool false)) dNil))) (dCons (dC (.int 0)) dNil)))) [x0, x1, x2, x3, x4, .sh (.str CD), .sh (spD u w), .sh (.str MS), .sh TD, .sh (.list HH), x10, x11, x12, x13, x14, x15, x16, .no, .no, .no] = .ok (.nx [x0, x1, x2, x3, x4, .sh (.str CD), .sh (spD u w), .sh (.str MS), .sh TD, .sh (.list HH), .sh (hD (false, false)), .sh (.int 0), x12, x13, x14, x15, x16, .no, .no, .no]) from rfl]
  simp only [R.bind_ok]
  rw [sSeq_ap, sFor_ap, show dIt asL (dVar 9) [x0, x1, x2, x3, x4, .sh (.str CD), .sh (spD u w), .sh (.str MS), .sh TD, .sh (.list HH), .sh (hD (false, false)), .sh (.int 0), x12, x13, x14, x15, x16, .no, .no, .no] = .ok HH from rfl]
  simp only [R.bind_ok]
  rw [cl]
  simp only [R.bind_ok]
  rw [sSeq_ap, show (sIf (dOr (dTest (d2 neD (dVar 11) (dCall dn_fewest (dCons (dVar 7) (dCons (dVar 5) dNil))))) (dNot (dTest (dChain leD leD (dC (.int 1)) (dVar 11) (dN lenD (dCons (dVar 5) dNil)))))) (sRet (dC (.bool false))) sNil) [x0, x1, x2, x3, x4, .sh (.str CD), .sh (spD u w), .sh (.str MS), .sh TD, .sh (.list HH), .sh LB, .sh (.int cnt), y12, x13, x14, x15, x16, .no, .no, .no] = .ok (.nx [x0, x1, x2, x3, x4, .sh (.str CD), .sh (spD u w), .sh (.str MS), .sh TD, .sh (.list HH), .sh LB, .sh (.int cnt), y12, x13, x14, x15, x16, .no, .no, .no]) by
    simp [f1, lc, c1, c2]]
  simp only [R.bind_ok]
  rw [sSeq_ap, show (sAsg 13 (dN sumD (dCons (dF (dLc (dIt signs (dVar 5)) (gN 17) dYes ce_law_2 [17])) dNil))) [x0, x1, x2, x3, x4, .sh (.str CD), .sh (spD u w), .sh (.str MS), .sh TD, .sh (.list HH), .sh LB, .sh (.int cnt), y12, x13, x14, x15, x16, .no, .no, .no] = .ok (.nx [x0, x1, x2, x3, x4, .sh (.str CD), .sh (spD u w), .sh (.str MS), .sh TD, .sh (.list HH), .sh LB, .sh (.int cnt), y12, .sh (.int SM), x14, x15, x16, .no, .no, .no]) by
    have z := szc (.sh (.str MS)) (.sh TD) (.sh (.list HH)) (.sh LB) (.sh (.int cnt)) y12 x13 x14 x15 x16 (codeOf n) hel
    rw [hsg, hdl] at z
    simp [sg1, dLc, free, wipeE, z, ck2, sm]]
  simp only [R.bind_ok]
  rw [sSeq_ap, show (sIf (dOr (dTest (d2 neD (dN lenD (dCons (dVar 9) dNil)) (d2 addD (dVar 13) (dC (.int 1))))) (dTest (d2 neD (dN lenD (dCons (dCall dn_played (dCons (dVar 7) (dCons (dVar 6) (dCons (dVar 9) dNil)))) dNil)) (d2 addD (dVar 13) (dC (.int 1)))))) (sRet (dC (.bool false))) sNil) [x0, x1, x2, x3, x4, .sh (.str CD), .sh (spD u w), .sh (.str MS), .sh TD, .sh (.list HH), .sh LB, .sh (.int cnt), y12, .sh (.int SM), x14, x15, x16, .no, .no, .no] = .ok (.nx [x0, x1, x2, x3, x4, .sh (.str CD), .sh (spD u w), .sh (.str MS), .sh TD, .sh (.list HH), .sh LB, .sh (.int cnt), y12, .sh (.int SM), x14, x15, x16, .no, .no, .no]) by
    simp [lh, pl, lp, -lenD_list]]
  simp only [R.bind_ok]
  rw [sSeq_ap, show (sIf (dAnd (dTest (d2 eqD (d1 lenT (dVar 5)) (dC (.int 1)))) (dTest (d2 neD (dVar 11) (dC (.int 1))))) (sRet (dC (.bool false))) sNil) [x0, x1, x2, x3, x4, .sh (.str CD), .sh (spD u w), .sh (.str MS), .sh TD, .sh (.list HH), .sh LB, .sh (.int cnt), y12, .sh (.int SM), x14, x15, x16, .no, .no, .no] = .ok (.nx [x0, x1, x2, x3, x4, .sh (.str CD), .sh (spD u w), .sh (.str MS), .sh TD, .sh (.list HH), .sh LB, .sh (.int cnt), y12, .sh (.int SM), x14, x15, x16, .no, .no, .no]) by
    by_cases hq : q = 1
    · have := l2 hq
      simp [l1, hq, this]
    · simp [l1, hq]]
  simp only [R.bind_ok]
  rw [sSeq_ap, show (sAsg 14 (dF (dLc (dItA zipT (dCons (dSl (dVar 5) dOno (dOso (d1 negD (dC (.int 1))))) (dCons (dSl (dVar 5) (dOso (dC (.int 1))) dOno) dNil))) (gT 2 (gCn (gN 18) (gCn (gN 19) gNl))) cc_law_4 ce_law_3 [18, 19]))) [x0, x1, x2, x3, x4, .sh (.str CD), .sh (spD u w), .sh (.str MS), .sh TD, .sh (.list HH), .sh LB, .sh (.int cnt), y12, .sh (.int SM), x14, x15, x16, .no, .no, .no] = .ok (.nx [x0, x1, x2, x3, x4, .sh (.str CD), .sh (spD u w), .sh (.str MS), .sh TD, .sh (.list HH), .sh LB, .sh (.int cnt), y12, .sh (.int SM), .sh (.list FM), x15, x16, .no, .no, .no]) by
    have z1 := nz (.sh TD) (.sh (.list HH)) (.sh LB) (.sh (.int cnt)) y12 (.sh (.int SM)) x14
    have z2 := zl2 (.sh TD) (.sh (.list HH)) (.sh LB) (.sh (.int cnt)) y12 (.sh (.int SM)) x14
    rw [sAsg_ap]
    show R.bind (R.bind (dLc _ _ _ _ _ _) _) _ = _
    unfold dLc
    rw [z1]
    simp [free, wipeE, z2, ck]]
  simp only [R.bind_ok]
  have ml : mkL [] = .ok (.list []) := rfl
  by_cases hmp : m = .p
  · simp [nmp, hmp]
  · cases hE : F.isEmpty with
    | false =>
      rw [hE] at eF
      simp [nmp, hmp, ml, eF]
    | true =>
      rw [hE] at eF
      have := l3 hmp (by rw [nq]; exact hE)
      have this2 : ¬ (2 < cnt) := by omega
      simp [nmp, hmp, ml, eF, this2]
theorem turn6 (x0 x1 : SV) (g j : Int) (hj : 0 ≤ j ∧ j < 1000) (x4 x5 x6 x7 x8 x9 x10 x11 x12 x13 x14 x15 x16 : SV) :
    ∃ (cs : List Nat) (R : Row) (y4 y6 y7 y9 y10 y11 y12 y13 y14 : SV), codeB cs = true ∧ R.length = cs.length + 1 ∧ lp_law_6 [x0, x1, .sh (.int g), .sh (.int j), x4, x5, x6, x7, x8, x9, x10, x11, x12, x13, x14, x15, x16, .no, .no, .no] = .ok (.nx [x0, x1, .sh (.int g), .sh (.int j), y4, .sh (.str (st cs)), y6, y7, .sh (rowD R), y9, y10, y11, y12, y13, y14, x15, x16, .no, .no, .no]) := by
  have hd := drawn_eq g (10 + j)
  have h0 := drawn_nn g (10 + j)
  generalize drawn g (10 + j) = dr at *
  obtain ⟨n, hn⟩ : ∃ n : Nat, (n : Int) = 2 + dr / 8 % 126 := ⟨(2 + dr / 8 % 126).toNat, by omega⟩
  have n2 : 2 ≤ n := by omega
  have n1 : n < 128 := by omega
  have hs := law_speed_eq (dr / 1024)
  have sp := lsp_ok (dr / 1024)
  generalize lspU (dr / 1024) = u at *
  generalize lspW (dr / 1024) = w at *
  have hc := law_code_eq n n1
  have good := codes_good n n2 n1
  obtain ⟨R1, a9, a10, a11, a12, a13, a14, _, e1⟩ := turn5 .p n n2 n1 sp x0 x1 (.sh (.int g)) (.sh (.int j)) (.sh (.int dr)) x8 x9 x10 x11 x12 x13 x14 x15 x16
  obtain ⟨R2, b9, b10, b11, b12, b13, b14, _, e2⟩ := turn5 .a n n2 n1 sp x0 x1 (.sh (.int g)) (.sh (.int j)) (.sh (.int dr)) (.sh (rowD R1)) a9 a10 a11 a12 a13 a14 x15 x16
  obtain ⟨R3, c9, c10, c11, c12, c13, c14, hR, e3⟩ := turn5 .b n n2 n1 sp x0 x1 (.sh (.int g)) (.sh (.int j)) (.sh (.int dr)) (.sh (rowD R2)) b9 b10 b11 b12 b13 b14 x15 x16
  refine ⟨codeOf n, R3, .sh (.int dr), .sh (spD u w), .sh (.str (mS .b)), c9, c10, c11, c12, c13, c14, good, hR, ?_⟩
  unfold lp_law_6
  have m1 : fdivD (.int dr) (.int 8) = .ok (.int (dr / 8)) := fdivD_int _ _ (by decide)
  have m2 : fdivD (.int dr) (.int 1024) = .ok (.int (dr / 1024)) := fdivD_int _ _ (by decide)
  have m3 : modD (.int (dr / 8)) (.int 126) = .ok (.int (dr / 8 % 126)) := modD_int _ _ (by omega)
  have s1 : sAsg 4 (dCall dn__law_drawn (dCons (dVar 2) (dCons (d2 addD (dC (.int 10)) (dVar 3)) dNil))) [x0, x1, .sh (.int g), .sh (.int j), x4, x5, x6, x7, x8, x9, x10, x11, x12, x13, x14, x15, x16, .no, .no, .no] = .ok (.nx [x0, x1, .sh (.int g), .sh (.int j), .sh (.int dr), x5, x6, x7, x8, x9, x10, x11, x12, x13, x14, x15, x16, .no, .no, .no]) := by simp [hd]
  rw [sSeq_ap, s1]
  simp only [R.bind_ok]
  have s2 : sAsgG (gT 2 (gCn (gN 5) (gCn (gN 6) gNl))) (dN mkT (dCons (dCall dn__law_code (dCons (d2 addD (dC (.int 2)) (d2 modD (d2 fdivD (dVar 4) (dC (.int 8))) (dC (.int 126)))) dNil)) (dCons (dCall dn__law_speed (dCons (d2 fdivD (dVar 4) (dC (.int 1024))) dNil)) dNil))) [x0, x1, .sh (.int g), .sh (.int j), .sh (.int dr), x5, x6, x7, x8, x9, x10, x11, x12, x13, x14, x15, x16, .no, .no, .no] = .ok (.nx [x0, x1, .sh (.int g), .sh (.int j), .sh (.int dr), .sh (.str (st (codeOf n))), .sh (spD u w), x7, x8, x9, x10, x11, x12, x13, x14, x15, x16, .no, .no, .no]) := by
    generalize st (codeOf n) = CD at *
    simp [m1, m2, m3, ← hn, hc, hs, mkT, szN_eq]
  rw [sSeq_ap, s2]
  simp only [R.bind_ok]
  have it : ∀ en : En, dIt asL (dN mkL (dCons (dC (.str "plain")) (dCons (dC (.str "a")) (dCons (dC (.str "b")) dNil)))) en = .ok [.str (mS .p), .str (mS .a), .str (mS .b)] := fun en => rfl
  rw [sFor_ap, it]
  simp only [R.bind_ok]
  rw [loopF_cons]
  simp only [gN_ap, R.noexc_ok, R.bind_ok, List.set_cons_succ, List.set_cons_zero, e1]
  rw [loopF_cons]
  simp only [gN_ap, R.noexc_ok, R.bind_ok, List.set_cons_succ, List.set_cons_zero, e2]
  rw [loopF_cons]
  simp only [gN_ap, R.noexc_ok, R.bind_ok, List.set_cons_succ, List.set_cons_zero, e3]
  rfl
/-! ### what is refused -/
theorem spread_no (cs : List Nat) (hc : codeB cs = true) (d s : PD) (h : isListD d = false) : dn_spread [.str (st cs), d, s] = .exc "BadHand" := by
  have hn := need_code52 hc
  unfold dn_spread runB bd_spread
  generalize st cs = CD at *
  simp [hn, h]
theorem spread_len (cs : List Nat) (hc : codeB cs = true) (ds : List PD) (s : PD) (h : ds.length ≠ cs.length + 1) : dn_spread [.str (st cs), .list ds, s] = .exc "BadHand" := by
  have hn := need_code52 hc
  obtain ⟨six, one, hel⟩ := code_isEl hc
  have l2 : lenD [.str (st cs)] = .ok (.int (cs.length : Int)) := by rw [lenD_str (st cs) (by rw [st_len, szN_eq]; omega), st_len]
  have h2 : ¬ ((ds.length : Int) = (cs.length : Int) + 1) := by omega
  have il : isListD (.list ds) = true := rfl
  unfold dn_spread runB bd_spread
  generalize st cs = CD at *
  simp [hn, il, l2, h2]
theorem spread_rep (cs : List Nat) (hc : codeB cs = true) (x s : PD) (h : dn_are_keys [x] = .ok (.bool false)) : dn_spread [.str (st cs), .list (List.replicate (cs.length + 1) x), s] = .exc "BadHand" := by
  have hn := need_code52 hc
  obtain ⟨six, one, hel⟩ := code_isEl hc
  have l2 : lenD [.str (st cs)] = .ok (.int (cs.length : Int)) := by rw [lenD_str (st cs) (by rw [st_len, szN_eq]; omega), st_len]
  have l1 : lenD [.list (List.replicate (cs.length + 1) x)] = .ok (.int ((cs.length : Int) + 1)) := by rw [lenD_list, List.length_replicate]; rfl
  have il : ∀ L, isListD (.list L) = true := fun _ => rfl
  have ka : lcL (gN 6) dYes ce_spread_1 [.sh (.str (st cs)), .sh (.list (List.replicate (cs.length + 1) x)), .sh s, .no, .no, .no, .no] (List.replicate (cs.length + 1) x) = .ok ((List.range (cs.length + 1)).map fun _ => .bool false) := by
    have e : List.replicate (cs.length + 1) x = (List.range (cs.length + 1)).map fun _ => x := by
      rw [List.map_const', List.length_range]
    have := lcL_mapM (tg := gN 6) (fe := ce_spread_1) (en := [.sh (.str (st cs)), .sh (.list (List.replicate (cs.length + 1) x)), .sh s, .no, .no, .no, .no]) (fun _ : Nat => x) (fun _ => .bool false) (List.range (cs.length + 1)) fun _ _ => ⟨_, rfl, by
      unfold ce_spread_1
      generalize PyData.list (List.replicate (cs.length + 1) x) = LL
      simp [h]⟩
    rw [← e] at this
    exact this
  have ck := chk_ok ((List.range (cs.length + 1)).map fun _ => PyData.bool false) (by rw [List.length_map, List.length_range, szN_eq]; omega)
  have al : allD [.list ((List.range (cs.length + 1)).map fun _ => .bool false)] = .ok (.bool false) := by
    have := allD_of (fun _ : Nat => false) (List.range (cs.length + 1))
    rw [this, List.range_succ_eq_map]
    simp
  generalize (List.range (cs.length + 1)).map (fun _ => PyData.bool false) = BF at *
  generalize List.replicate (cs.length + 1) x = RL at *
  unfold dn_spread runB bd_spread
  generalize st cs = CD at *
  simp [hn, il, l1, l2, dLc, free, wipeE, asL, ka, ck, al, -lenD_list]
theorem spread_sp (cs : List Nat) (hc : codeB cs = true) (R : Row) (hR : R.length = cs.length + 1) : dn_spread [.str (st cs), rowD R, .none] = .exc "BadNumber" := by
  have hn := need_code52 hc
  obtain ⟨six, one, hel⟩ := code_isEl hc
  have l2 : lenD [.str (st cs)] = .ok (.int (cs.length : Int)) := by rw [lenD_str (st cs) (by rw [st_len, szN_eq]; omega), st_len]
  have l1 : lenD [rowD R] = .ok (.int ((cs.length : Int) + 1)) := by rw [len_row, hR]; rfl
  have il : ∀ L, isListD (.list L) = true := fun _ => rfl
  have ka := keys_all (.sh (.str (st cs))) (.sh (rowD R)) (.sh .none) .no .no .no R
  have ck := chk_ok (R.map fun _ => PyData.bool true) (by rw [List.length_map, hR, szN_eq]; omega)
  have al : allD [.list (R.map fun _ => .bool true)] = .ok (.bool true) := by
    have := allD_of (fun _ : BB => true) R
    rw [this]
    simp
  have ns : dn_need_speed [.none] = .exc "BadNumber" := by kernel_rfl
  obtain ⟨RL, hRL⟩ : ∃ RL, rowD R = .list RL := ⟨_, rfl⟩
  have hRL2 : rowL R = RL := PyData.list.inj hRL
  rw [hRL] at l1 ka ⊢
  rw [hRL2] at ka
  generalize R.map (fun _ => PyData.bool true) = BT at *
  unfold dn_spread runB bd_spread
  generalize st cs = CD at *
  simp [hn, il, l1, l2, dLc, free, wipeE, asL, ka, ck, al, ns, -lenD_list]
theorem bad_step {cs : List Nat} (d : PD) (h : dn_spread [.str (st cs), d, .none] = .exc "BadHand") (L : List PD) (hL : L.length ≤ 100) (x0 x1 x2 x3 x4 x6 x7 x8 x9 x10 x11 x12 x13 x14 : SV) :
    lp_law_7 [x0, x1, x2, x3, x4, .sh (.str (st cs)), x6, x7, x8, x9, x10, x11, x12, x13, x14, .ol L, .sh d, .no, .no, .no] = .ok (.nx [x0, x1, x2, x3, x4, .sh (.str (st cs)), x6, x7, x8, x9, x10, x11, x12, x13, x14, .ol (L ++ [.str "BadHand"]), .sh d, .no, .no, .no]) := by
  have h1 : ("BadHand" : Str) ∈ excs := by decide +kernel
  have hz : L.length + 1 ≤ 1000000 := by omega
  unfold lp_law_7
  generalize st cs = CD at *
  simp [told_ap, h, told_exc _ _ h1, szN_eq, hz]
theorem bad_loop {cs : List Nat} (x0 x1 x2 x3 x4 x6 x7 x8 x9 x10 x11 x12 x13 x14 : SV) : ∀ (ds : List PD) (L : List PD) (x16 : SV), (∀ d ∈ ds, dn_spread [.str (st cs), d, .none] = .exc "BadHand") → L.length + ds.length ≤ 100 →
    ∃ y16, loopF (gN 16) lp_law_7 ds [x0, x1, x2, x3, x4, .sh (.str (st cs)), x6, x7, x8, x9, x10, x11, x12, x13, x14, .ol L, x16, .no, .no, .no] = .ok (.nx [x0, x1, x2, x3, x4, .sh (.str (st cs)), x6, x7, x8, x9, x10, x11, x12, x13, x14, .ol (L ++ List.replicate ds.length (.str "BadHand")), y16, .no, .no, .no])
  | [], L, x16, _, _ => ⟨x16, by rw [List.length_nil, List.replicate_zero, List.append_nil]; rfl⟩
  | d :: ds, L, x16, h, hL => by
    rw [List.length_cons] at hL
    have e1 := bad_step d (h d List.mem_cons_self) L (by omega) x0 x1 x2 x3 x4 x6 x7 x8 x9 x10 x11 x12 x13 x14
    obtain ⟨y16, ih⟩ := bad_loop (cs := cs) x0 x1 x2 x3 x4 x6 x7 x8 x9 x10 x11 x12 x13 x14 ds (L ++ [.str "BadHand"]) (.sh d) (fun e he => h e (List.mem_cons_of_mem _ he)) (by rw [List.length_append]; simp; omega)
    refine ⟨y16, ?_⟩
    rw [loopF_cons, List.length_cons, List.replicate_succ]
    rw [List.append_assoc] at ih
    rw [show L ++ PyData.str "BadHand" :: List.replicate ds.length (PyData.str "BadHand") = L ++ ([PyData.str "BadHand"] ++ List.replicate ds.length (PyData.str "BadHand")) from rfl, ← ih]
    simp only [gN_ap, R.noexc_ok, R.bind_ok, List.set_cons_succ, List.set_cons_zero, e1]
theorem turn8 (ns : List Int) (hn : ns.length ≤ 63) (k : Int) (hk : 0 ≤ k ∧ k < 1000) (x2 x3 x4 x5 x6 x7 x8 x9 x10 x11 x12 x13 x14 x15 x16 : SV) :
    ∃ y2 y3 y4 y5 y6 y7 y8 y9 y10 y11 y12 y13 y14 y15 y16, lp_law_8 [.rl (ns.map .int), .sh (.int k), x2, x3, x4, x5, x6, x7, x8, x9, x10, x11, x12, x13, x14, x15, x16, .no, .no, .no] = .ok (.nx [.rl (ns.map .int), .sh (.int k), y2, y3, y4, y5, y6, y7, y8, y9, y10, y11, y12, y13, y14, y15, y16, .no, .no, .no]) := by
  have hm := drawn_eq (cellF ns k) k
  generalize drawn (cellF ns k) k = g at *
  obtain ⟨c1, R1, a4, a6, a7, a9, a10, a11, a12, a13, a14, _, _, e1⟩ := turn6 (.rl (ns.map .int)) (.sh (.int k)) g 0 (by decide) x4 x5 x6 x7 x8 x9 x10 x11 x12 x13 x14 x15 x16
  obtain ⟨c2, R2, b4, b6, b7, b9, b10, b11, b12, b13, b14, _, _, e2⟩ := turn6 (.rl (ns.map .int)) (.sh (.int k)) g 1 (by decide) a4 (.sh (.str (st c1))) a6 a7 (.sh (rowD R1)) a9 a10 a11 a12 a13 a14 x15 x16
  obtain ⟨c3, R3, d4, d6, d7, d9, d10, d11, d12, d13, d14, _, _, e3⟩ := turn6 (.rl (ns.map .int)) (.sh (.int k)) g 2 (by decide) b4 (.sh (.str (st c2))) b6 b7 (.sh (rowD R2)) b9 b10 b11 b12 b13 b14 x15 x16
  obtain ⟨cs, Q9, f4, f6, f7, f9, f10, f11, f12, f13, f14, good, hR, e4⟩ := turn6 (.rl (ns.map .int)) (.sh (.int k)) g 3 (by decide) d4 (.sh (.str (st c3))) d6 d7 (.sh (rowD R3)) d9 d10 d11 d12 d13 d14 x15 x16
  obtain ⟨six, one, hel⟩ := code_isEl good
  have lc : lenD [.str (st cs)] = .ok (.int (cs.length : Int)) := by rw [lenD_str (st cs) (by rw [st_len, szN_eq]; omega), st_len]
  have bads : ∀ d ∈ [PyData.none, .list (cutD (rowL Q9) none (some (-1))), .list (rowL Q9 ++ [hD (false, false)]), .list (List.replicate (cs.length + 1) (.tuple [.int 1, .int 0])), .list (List.replicate (cs.length + 1) .none), .tuple (rowL Q9)], dn_spread [.str (st cs), d, .none] = .exc "BadHand" := by
    intro d hd
    simp only [List.mem_cons, List.not_mem_nil, or_false] at hd
    rcases hd with rfl | rfl | rfl | rfl | rfl | rfl
    · exact spread_no cs good _ _ rfl
    · refine spread_len cs good _ _ ?_
      have e : cutD (rowL Q9) none (some (-1)) = (rowL Q9).dropLast := by
        unfold cutD
        rw [HT.sIx_none, List.drop_zero]
        show (rowL Q9).take ((if (-1 : Int) < 0 then ((-1 : Int) + ((rowL Q9).length : Int)).toNat else min (-1 : Int).toNat (rowL Q9).length) - 0) = _
        rw [if_pos (by decide), List.dropLast_eq_take]
        congr 1
        omega
      rw [e, List.length_dropLast, List.length_map]
      omega
    · exact spread_len cs good _ _ (by rw [List.length_append, List.length_map]; simp; omega)
    · exact spread_rep cs good _ _ rfl
    · exact spread_rep cs good _ _ rfl
    · exact spread_no cs good _ _ rfl
  obtain ⟨y16, bl⟩ := bad_loop (cs := cs) (.rl (ns.map .int)) (.sh (.int k)) (.sh (.int g)) (.sh (.int 3)) f4 f6 f7 (.sh (rowD Q9)) f9 f10 f11 f12 (.sh (.int ((cs.length : Int) + 1))) f14 _ [.str "BadCode"] x16 bads (by show 1 + 6 ≤ 100; decide)
  have lastB := spread_sp cs good Q9 hR
  refine ⟨.sh (.int g), .sh (.int 3), f4, .sh (.str (st cs)), f6, f7, .sh (rowD Q9), f9, f10, f11, f12, .sh (.int ((cs.length : Int) + 1)), f14, .ol ([.str "BadCode"] ++ List.replicate 6 (.str "BadHand") ++ [.str "BadNumber"]), y16, ?_⟩
  unfold lp_law_8
  have s1 : sAsg 2 (dCall dn__law_drawn (dCons (dCell 0 (dVar 1)) (dCons (dVar 1) dNil))) [.rl (ns.map .int), .sh (.int k), x2, x3, x4, x5, x6, x7, x8, x9, x10, x11, x12, x13, x14, x15, x16, .no, .no, .no] = .ok (.nx [.rl (ns.map .int), .sh (.int k), .sh (.int g), x3, x4, x5, x6, x7, x8, x9, x10, x11, x12, x13, x14, x15, x16, .no, .no, .no]) := by simp [dCell_ok ns hn k hk, hm]
  rw [sSeq_ap, s1]
  simp only [R.bind_ok]
  have it : ∀ en : En, dItA rng1 (dCons (dC (.int 4)) dNil) en = .ok [.int 0, .int 1, .int 2, .int 3] := fun en => rfl
  rw [sSeq_ap, sFor_ap, it]
  simp only [R.bind_ok]
  rw [loopF_cons]
  simp only [gN_ap, R.noexc_ok, R.bind_ok, List.set_cons_succ, List.set_cons_zero, e1]
  rw [loopF_cons]
  simp only [gN_ap, R.noexc_ok, R.bind_ok, List.set_cons_succ, List.set_cons_zero, e2]
  rw [loopF_cons]
  simp only [gN_ap, R.noexc_ok, R.bind_ok, List.set_cons_succ, List.set_cons_zero, e3]
  rw [loopF_cons]
  simp only [gN_ap, R.noexc_ok, R.bind_ok, List.set_cons_succ, List.set_cons_zero, e4]
  rw [show ∀ en : En, loopF (gN 3) lp_law_6 [] en = .ok (.nx en) from fun _ => rfl]
  simp only [R.bind_ok]
  have s3 : sAsgF 15 (dLst (dCons (dTold excs (dCall dn_spread (dCons (dC (.str "")) (dCons (dC .none) (dCons (dC .none) dNil))))) dNil)) [.rl (ns.map .int), .sh (.int k), .sh (.int g), .sh (.int 3), f4, .sh (.str (st cs)), f6, f7, .sh (rowD Q9), f9, f10, f11, f12, f13, f14, x15, x16, .no, .no, .no] = .ok (.nx [.rl (ns.map .int), .sh (.int k), .sh (.int g), .sh (.int 3), f4, .sh (.str (st cs)), f6, f7, .sh (rowD Q9), f9, f10, f11, f12, f13, f14, .ol [.str "BadCode"], x16, .no, .no, .no]) := by kernel_rfl
  rw [sSeq_ap, s3]
  simp only [R.bind_ok]
  have s4 : sAsg 13 (d2 addD (dN lenD (dCons (dVar 5) dNil)) (dC (.int 1))) [.rl (ns.map .int), .sh (.int k), .sh (.int g), .sh (.int 3), f4, .sh (.str (st cs)), f6, f7, .sh (rowD Q9), f9, f10, f11, f12, f13, f14, .ol [.str "BadCode"], x16, .no, .no, .no] = .ok (.nx [.rl (ns.map .int), .sh (.int k), .sh (.int g), .sh (.int 3), f4, .sh (.str (st cs)), f6, f7, .sh (rowD Q9), f9, f10, f11, f12, .sh (.int ((cs.length : Int) + 1)), f14, .ol [.str "BadCode"], x16, .no, .no, .no]) := by
    generalize st cs = CD at *
    simp [lc]
  rw [sSeq_ap, s4]
  simp only [R.bind_ok]
  have v2 : slD (rowD Q9) none (some (-1)) = .ok (.list (cutD (rowL Q9) none (some (-1)))) := rfl
  have v3 : addD (rowD Q9) (.list [hD (false, false)]) = .ok (.list (rowL Q9 ++ [hD (false, false)])) := by
    show (if (rowL Q9).length + 1 ≤ szN then R.ok (PyData.list (rowL Q9 ++ [hD (false, false)])) else R.stuck) = _
    rw [if_pos (by rw [List.length_map, szN_eq]; omega)]
  have v4 : ∀ x : PD, mulD (.list [x]) (.int ((cs.length : Int) + 1)) = .ok (.list (List.replicate (cs.length + 1) x)) := fun x => by
    rw [mulD_rep _ _ (by omega) (by omega) (by rw [szN_eq]; simp; omega)]
    have e : ((cs.length : Int) + 1).toNat = cs.length + 1 := by omega
    rw [e]
    congr 2
    generalize cs.length + 1 = N
    induction N with
    | zero => rfl
    | succ N ih => rw [List.replicate_succ, List.flatten_cons, List.replicate_succ, ih]; rfl
  have v6 : tupD [rowD Q9] = .ok (.tuple (rowL Q9)) := rfl
  have ng : negD (.int 1) = .ok (.int (-1)) := rfl
  have it2 : dIt asL (dN mkL (dCons (dC .none) (dCons (dSl (dVar 8) dOno (dOso (d1 negD (dC (.int 1))))) (dCons (d2 addD (dVar 8) (dN mkL (dCons (dN mkT (dCons (dC (.bool false)) (dCons (dC (.bool false)) dNil))) dNil))) (dCons (d2 mulD (dN mkL (dCons (dN mkT (dCons (dC (.int 1)) (dCons (dC (.int 0)) dNil))) dNil)) (dVar 13)) (dCons (d2 mulD (dN mkL (dCons (dC .none) dNil)) (dVar 13)) (dCons (dN tupD (dCons (dVar 8) dNil)) dNil))))))) [.rl (ns.map .int), .sh (.int k), .sh (.int g), .sh (.int 3), f4, .sh (.str (st cs)), f6, f7, .sh (rowD Q9), f9, f10, f11, f12, .sh (.int ((cs.length : Int) + 1)), f14, .ol [.str "BadCode"], x16, .no, .no, .no] = .ok [PyData.none, .list (cutD (rowL Q9) none (some (-1))), .list (rowL Q9 ++ [hD (false, false)]), .list (List.replicate (cs.length + 1) (.tuple [.int 1, .int 0])), .list (List.replicate (cs.length + 1) .none), .tuple (rowL Q9)] := by
    have w4 := v4 (.tuple [.int 1, .int 0])
    have w5 := v4 .none
    generalize PyData.list (List.replicate (cs.length + 1) (.tuple [.int 1, .int 0])) = A4 at *
    generalize PyData.list (List.replicate (cs.length + 1) .none) = A5 at *
    generalize PyData.list (cutD (rowL Q9) none (some (-1))) = A2 at *
    generalize PyData.list (rowL Q9 ++ [hD (false, false)]) = A3 at *
    generalize PyData.tuple (rowL Q9) = A6 at *
    generalize rowD Q9 = TD at *
    simp [mkL, mkT, szN_eq, asL, ng, v2, v3, w4, w5, v6]
  rw [sSeq_ap, sFor_ap, it2]
  simp only [R.bind_ok]
  rw [bl]
  simp only [R.bind_ok]
  have h1 : ("BadNumber" : Str) ∈ excs := by decide +kernel
  have s6 : sApp 15 (dTold excs (dCall dn_spread (dCons (dVar 5) (dCons (dVar 8) (dCons (dC .none) dNil))))) [.rl (ns.map .int), .sh (.int k), .sh (.int g), .sh (.int 3), f4, .sh (.str (st cs)), f6, f7, .sh (rowD Q9), f9, f10, f11, f12, .sh (.int ((cs.length : Int) + 1)), f14, .ol ([.str "BadCode"] ++ List.replicate 6 (.str "BadHand")), y16, .no, .no, .no] = .ok (.nx [.rl (ns.map .int), .sh (.int k), .sh (.int g), .sh (.int 3), f4, .sh (.str (st cs)), f6, f7, .sh (rowD Q9), f9, f10, f11, f12, .sh (.int ((cs.length : Int) + 1)), f14, .ol ([.str "BadCode"] ++ List.replicate 6 (.str "BadHand") ++ [.str "BadNumber"]), y16, .no, .no, .no]) := by
    generalize hLL : [PyData.str "BadCode"] ++ List.replicate 6 (PyData.str "BadHand") = LL
    have hz : LL.length + 1 ≤ 1000000 := by rw [← hLL]; decide
    generalize rowD Q9 = TD at *
    generalize st cs = CD at *
    simp [told_ap, lastB, told_exc _ _ h1, szN_eq, hz]
  rw [sSeq_ap]
  have s6' := s6
  rw [show List.length [PyData.none, PyData.list (cutD (rowL Q9) none (some (-1))), .list (rowL Q9 ++ [hD (false, false)]), .list (List.replicate (cs.length + 1) (.tuple [.int 1, .int 0])), .list (List.replicate (cs.length + 1) .none), .tuple (rowL Q9)] = 6 from rfl, s6']
  simp only [R.bind_ok]
  generalize rowD Q9 = TD at *
  generalize st cs = CD at *
  generalize ((cs.length : Int) + 1) = LN at *
  kernel_rfl
theorem law_true (ns : List Int) (h : ns.length ≤ 63) : runL 20 (sNx bd_law) ns = .ok (.bool true) := by
  refine law_of (N := 3) (by decide) ns (fun en => ∃ x1 x2 x3 x4 x5 x6 x7 x8 x9 x10 x11 x12 x13 x14 x15 x16, en = [.rl (ns.map .int), x1, x2, x3, x4, x5, x6, x7, x8, x9, x10, x11, x12, x13, x14, x15, x16, .no, .no, .no]) 19 ⟨.no, .no, .no, .no, .no, .no, .no, .no, .no, .no, .no, .no, .no, .no, .no, .no, rfl⟩ ?_
  rintro k k0 k1 en ⟨x1, x2, x3, x4, x5, x6, x7, x8, x9, x10, x11, x12, x13, x14, x15, x16, rfl⟩
  obtain ⟨y2, y3, y4, y5, y6, y7, y8, y9, y10, y11, y12, y13, y14, y15, y16, e⟩ := turn8 ns h k ⟨k0, k1⟩ x2 x3 x4 x5 x6 x7 x8 x9 x10 x11 x12 x13 x14 x15 x16
  exact ⟨_, .inl e, .sh (.int k), y2, y3, y4, y5, y6, y7, y8, y9, y10, y11, y12, y13, y14, y15, y16, rfl⟩
end
end Tk

namespace Tk
open PySem L2 Dn
theorem all_mk {l : PySem.W.OpenLaw} {w : World} {K : PySem.W.Frag} {h : Heap} {mg : Str → Option Value} {fa : Addr} (X : K.In h) (G : h.Ns mainGlobals mg) (hfa : mg "law" = some (.ref fa))
    {oC0 : Addr} {f0 : Addr} {od0 an0 : Option Addr} {sl0 : Array (Option Value)} {oc0 kV0 dc0 pm0 cd0 ct0 : Value} {f1 : Addr} {od1 an1 : Option Addr} {sl1 : Array (Option Value)} {oc1 kV1 dc1 pm1 cd1 ct1 : Value} {f2 : Addr} {od2 an2 : Option Addr} {sl2 : Array (Option Value)} {oc2 kV2 dc2 pm2 cd2 ct2 : Value} {f3 : Addr} {od3 an3 : Option Addr} {sl3 : Array (Option Value)} {oc3 kV3 dc3 pm3 cd3 ct3 : Value} {f4 : Addr} {od4 an4 : Option Addr} {sl4 : Array (Option Value)} {oc4 kV4 dc4 pm4 cd4 ct4 : Value} {f5 : Addr} {od5 an5 : Option Addr} {sl5 : Array (Option Value)} {oc5 kV5 dc5 pm5 cd5 ct5 : Value} {f6 : Addr} {od6 an6 : Option Addr} {sl6 : Array (Option Value)} {oc6 kV6 dc6 pm6 cd6 ct6 : Value} {f7 : Addr} {od7 an7 : Option Addr} {sl7 : Array (Option Value)} {oc7 kV7 dc7 pm7 cd7 ct7 : Value} {f8 : Addr} {od8 an8 : Option Addr} {sl8 : Array (Option Value)} {oc8 kV8 dc8 pm8 cd8 ct8 : Value} {f9 : Addr} {od9 an9 : Option Addr} {sl9 : Array (Option Value)} {oc9 kV9 dc9 pm9 cd9 ct9 : Value} {f10 : Addr} {od10 an10 : Option Addr} {sl10 : Array (Option Value)} {oc10 kV10 dc10 pm10 cd10 ct10 : Value} {f11 : Addr} {od11 an11 : Option Addr} {sl11 : Array (Option Value)} {oc11 kV11 dc11 pm11 cd11 ct11 : Value} {f12 : Addr} {od12 an12 : Option Addr} {sl12 : Array (Option Value)} {oc12 kV12 dc12 pm12 cd12 ct12 : Value} {f13 : Addr} {od13 an13 : Option Addr} {sl13 : Array (Option Value)} {oc13 kV13 dc13 pm13 cd13 ct13 : Value} {f14 : Addr} {od14 an14 : Option Addr} {sl14 : Array (Option Value)} {oc14 kV14 dc14 pm14 cd14 ct14 : Value} {f15 : Addr} {od15 an15 : Option Addr} {sl15 : Array (Option Value)} {oc15 kV15 dc15 pm15 cd15 ct15 : Value} {f16 : Addr} {od16 an16 : Option Addr} {sl16 : Array (Option Value)} {oc16 kV16 dc16 pm16 cd16 ct16 : Value} {f17 : Addr} {od17 an17 : Option Addr} {sl17 : Array (Option Value)} {oc17 kV17 dc17 pm17 cd17 ct17 : Value} {f18 : Addr} {od18 an18 : Option Addr} {sl18 : Array (Option Value)} {oc18 kV18 dc18 pm18 cd18 ct18 : Value} {f19 : Addr} {od19 an19 : Option Addr} {sl19 : Array (Option Value)} {oc19 kV19 dc19 pm19 cd19 ct19 : Value} {f20 : Addr} {od20 an20 : Option Addr} {sl20 : Array (Option Value)} {oc20 kV20 dc20 pm20 cd20 ct20 : Value} {f21 : Addr} {od21 an21 : Option Addr} {sl21 : Array (Option Value)} {oc21 kV21 dc21 pm21 cd21 ct21 : Value} {f22 : Addr} {od22 an22 : Option Addr} {sl22 : Array (Option Value)} {oc22 kV22 dc22 pm22 cd22 ct22 : Value} {f23 : Addr} {od23 an23 : Option Addr} {sl23 : Array (Option Value)} {oc23 kV23 dc23 pm23 cd23 ct23 : Value} {f24 : Addr} {od24 an24 : Option Addr} {sl24 : Array (Option Value)} {oc24 kV24 dc24 pm24 cd24 ct24 : Value} {f25 : Addr} {od25 an25 : Option Addr} {sl25 : Array (Option Value)} {oc25 kV25 dc25 pm25 cd25 ct25 : Value} {f26 : Addr} {od26 an26 : Option Addr} {sl26 : Array (Option Value)} {oc26 kV26 dc26 pm26 cd26 ct26 : Value} {f27 : Addr} {od27 an27 : Option Addr} {sl27 : Array (Option Value)} {oc27 kV27 dc27 pm27 cd27 ct27 : Value} {f28 : Addr} {od28 an28 : Option Addr} {sl28 : Array (Option Value)} {oc28 kV28 dc28 pm28 cd28 ct28 : Value} {f29 : Addr} {od29 an29 : Option Addr} {sl29 : Array (Option Value)} {oc29 kV29 dc29 pm29 cd29 ct29 : Value} {f30 : Addr} {od30 an30 : Option Addr} {sl30 : Array (Option Value)} {oc30 kV30 dc30 pm30 cd30 ct30 : Value} {f31 : Addr} {od31 an31 : Option Addr} {sl31 : Array (Option Value)} {oc31 kV31 dc31 pm31 cd31 ct31 : Value} {f32 : Addr} {od32 an32 : Option Addr} {sl32 : Array (Option Value)} {oc32 kV32 dc32 pm32 cd32 ct32 : Value} {f33 : Addr} {od33 an33 : Option Addr} {sl33 : Array (Option Value)} {oc33 kV33 dc33 pm33 cd33 ct33 : Value} {f34 : Addr} {od34 an34 : Option Addr} {sl34 : Array (Option Value)} {oc34 kV34 dc34 pm34 cd34 ct34 : Value} {f35 cc35 tb35 : Addr} {od35 an35 : Option Addr} {sl35 : Array (Option Value)} {oc35 kV35 dc35 pm35 ct35 : Value} {e0 : Addr} {e1 : Addr} {e2 : Addr} {e3 : Addr} {e4 : Addr} {e5 : Addr} {e6 : Addr} {e7 : Addr} {e8 : Addr} {t0 : Tok} {t1 : Tok} {p2 : Addr} {n2 : Nat} {d2 : Option Addr} {s2 : Array (Option Value)} {u2_0 u2_1 u2_2 : Tok} {t3 : Tok} {p4 : Addr} {n4 : Nat} {d4 : Option Addr} {s4 : Array (Option Value)} {p4_0 p4_1 p4_2 p4_3 : Addr} {n4_0 n4_1 n4_2 n4_3 : Nat} {d4_0 d4_1 d4_2 d4_3 : Option Addr} {s4_0 s4_1 s4_2 s4_3 : Array (Option Value)}
    (tq35 : PySem.W.CodeHd h cc35 tb35 ∧ h.get? tb35 = some { cls := .none, data := .fields #[] })
    (oa0 : PySem.W.nsIn K mainGlobals "Keyer" = some (some (.ref oC0)))
    (opg0 : PySem.W.plainGet K oC0 Str.empty = true)
    (ohd0 : PySem.W.hasDictIn K oC0 = true)
    (opo0 : PySem.W.plainOver K oC0 = true)
    (osa0 : PySem.W.findIn K (.ref oC0) "__setattr__" = some (some (.builtin "object.__setattr__")))
    (omk0 : PySem.W.makesIn K oC0 = true)
    (okc0 : PySem.W.keepIn K (.ref oC0) = true)
    (on0_0 : PySem.W.findIn K (.ref oC0) "manner" = some none)
    (on0_1 : PySem.W.findIn K (.ref oC0) "speed" = some none)
    (on0_2 : PySem.W.findIn K (.ref oC0) "element" = some none)
    (on0_3 : PySem.W.findIn K (.ref oC0) "tone_left" = some none)
    (on0_4 : PySem.W.findIn K (.ref oC0) "gap_left" = some none)
    (on0_5 : PySem.W.findIn K (.ref oC0) "ahead" = some none)
    (on0_6 : PySem.W.findIn K (.ref oC0) "is_squeezed" = some none)
    (on0_7 : PySem.W.findIn K (.ref oC0) "held" = some none)
    (on0_8 : PySem.W.findIn K (.ref oC0) "rows" = some none)
    (on0_9 : PySem.W.findIn K (.ref oC0) "clock" = some none)
    (a0 : PySem.W.nsIn K mainGlobals "is_code" = some (some (.ref f0)))
    (l0 : K.lookup f0 = some ⟨oc0, od0, .func (PySem.W.fnOf "is_code" "is_code" (defArgs s_is_code) (defBody s_is_code) (defScope s_is_code) .none kV0 dc0 pm0 an0 cd0 ct0), sl0⟩)
    (c0 : PySem.W.codeIn K cd0 "is_code" = true)
    (k0 : PySem.W.keepIn K (.ref f0) = true)
    (a1 : PySem.W.nsIn K mainGlobals "is_count" = some (some (.ref f1)))
    (l1 : K.lookup f1 = some ⟨oc1, od1, .func (PySem.W.fnOf "is_count" "is_count" (defArgs s_is_count) (defBody s_is_count) (defScope s_is_count) .none kV1 dc1 pm1 an1 cd1 ct1), sl1⟩)
    (c1 : PySem.W.codeIn K cd1 "is_count" = true)
    (k1 : PySem.W.keepIn K (.ref f1) = true)
    (a2 : PySem.W.nsIn K mainGlobals "tone_long" = some (some (.ref f2)))
    (l2 : K.lookup f2 = some ⟨oc2, od2, .func (PySem.W.fnOf "tone_long" "tone_long" (defArgs s_tone_long) (defBody s_tone_long) (defScope s_tone_long) .none kV2 dc2 pm2 an2 cd2 ct2), sl2⟩)
    (c2 : PySem.W.codeIn K cd2 "tone_long" = true)
    (k2 : PySem.W.keepIn K (.ref f2) = true)
    (a3 : PySem.W.nsIn K mainGlobals "gap_long" = some (some (.ref f3)))
    (l3 : K.lookup f3 = some ⟨oc3, od3, .func (PySem.W.fnOf "gap_long" "gap_long" (defArgs s_gap_long) (defBody s_gap_long) (defScope s_gap_long) .none kV3 dc3 pm3 an3 cd3 ct3), sl3⟩)
    (c3 : PySem.W.codeIn K cd3 "gap_long" = true)
    (k3 : PySem.W.keepIn K (.ref f3) = true)
    (a4 : PySem.W.nsIn K mainGlobals "need_manner" = some (some (.ref f4)))
    (l4 : K.lookup f4 = some ⟨oc4, od4, .func (PySem.W.fnOf "need_manner" "need_manner" (defArgs s_need_manner) (defBody s_need_manner) (defScope s_need_manner) .none kV4 dc4 pm4 an4 cd4 ct4), sl4⟩)
    (c4 : PySem.W.codeIn K cd4 "need_manner" = true)
    (k4 : PySem.W.keepIn K (.ref f4) = true)
    (a5 : PySem.W.nsIn K mainGlobals "other_one" = some (some (.ref f5)))
    (l5 : K.lookup f5 = some ⟨oc5, od5, .func (PySem.W.fnOf "other_one" "other_one" (defArgs s_other_one) (defBody s_other_one) (defScope s_other_one) .none kV5 dc5 pm5 an5 cd5 ct5), sl5⟩)
    (c5 : PySem.W.codeIn K cd5 "other_one" = true)
    (k5 : PySem.W.keepIn K (.ref f5) = true)
    (a6 : PySem.W.findIn K (.ref oC0) "made" = some (some (.ref f6)))
    (i6 : PySem.W.isFn K (.ref f6) = true)
    (l6 : K.lookup f6 = some ⟨oc6, od6, .func (PySem.W.fnOf "made" "Keyer.made" (defArgs s_Keyer_made) (defBody s_Keyer_made) (defScope s_Keyer_made) .none kV6 dc6 pm6 an6 cd6 ct6), sl6⟩)
    (c6 : PySem.W.codeIn K cd6 "Keyer.made" = true)
    (k6 : PySem.W.keepIn K (.ref f6) = true)
    (a7 : PySem.W.nsIn K mainGlobals "are_keys" = some (some (.ref f7)))
    (l7 : K.lookup f7 = some ⟨oc7, od7, .func (PySem.W.fnOf "are_keys" "are_keys" (defArgs s_are_keys) (defBody s_are_keys) (defScope s_are_keys) .none kV7 dc7 pm7 an7 cd7 ct7), sl7⟩)
    (c7 : PySem.W.codeIn K cd7 "are_keys" = true)
    (k7 : PySem.W.keepIn K (.ref f7) = true)
    (a8 : PySem.W.nsIn K mainGlobals "presses" = some (some (.ref f8)))
    (l8 : K.lookup f8 = some ⟨oc8, od8, .func (PySem.W.fnOf "presses" "presses" (defArgs s_presses) (defBody s_presses) (defScope s_presses) .none kV8 dc8 pm8 an8 cd8 ct8), sl8⟩)
    (c8 : PySem.W.codeIn K cd8 "presses" = true)
    (k8 : PySem.W.keepIn K (.ref f8) = true)
    (a9 : PySem.W.nsIn K mainGlobals "_law_cell" = some (some (.ref f9)))
    (l9 : K.lookup f9 = some ⟨oc9, od9, .func (PySem.W.fnOf "_law_cell" "_law_cell" (defArgs s__law_cell) (defBody s__law_cell) (defScope s__law_cell) .none kV9 dc9 pm9 an9 cd9 ct9), sl9⟩)
    (c9 : PySem.W.codeIn K cd9 "_law_cell" = true)
    (k9 : PySem.W.keepIn K (.ref f9) = true)
    (a10 : PySem.W.nsIn K mainGlobals "_law_drawn" = some (some (.ref f10)))
    (l10 : K.lookup f10 = some ⟨oc10, od10, .func (PySem.W.fnOf "_law_drawn" "_law_drawn" (defArgs s__law_drawn) (defBody s__law_drawn) (defScope s__law_drawn) .none kV10 dc10 pm10 an10 cd10 ct10), sl10⟩)
    (c10 : PySem.W.codeIn K cd10 "_law_drawn" = true)
    (k10 : PySem.W.keepIn K (.ref f10) = true)
    (a11 : PySem.W.nsIn K mainGlobals "_law_word" = some (some (.ref f11)))
    (l11 : K.lookup f11 = some ⟨oc11, od11, .func (PySem.W.fnOf "_law_word" "_law_word" (defArgs s__law_word) (defBody s__law_word) (defScope s__law_word) .none kV11 dc11 pm11 an11 cd11 ct11), sl11⟩)
    (c11 : PySem.W.codeIn K cd11 "_law_word" = true)
    (k11 : PySem.W.keepIn K (.ref f11) = true)
    (a12 : PySem.W.nsIn K mainGlobals "_law_told" = some (some (.ref f12)))
    (l12 : K.lookup f12 = some ⟨oc12, od12, .func (PySem.W.fnOf "_law_told" "_law_told" (defArgs s__law_told) (defBody s__law_told) (defScope s__law_told) .none kV12 dc12 pm12 an12 cd12 ct12), sl12⟩)
    (c12 : PySem.W.codeIn K cd12 "_law_told" = true)
    (k12 : PySem.W.keepIn K (.ref f12) = true)
    (a13 : PySem.W.nsIn K mainGlobals "_law_code" = some (some (.ref f13)))
    (l13 : K.lookup f13 = some ⟨oc13, od13, .func (PySem.W.fnOf "_law_code" "_law_code" (defArgs s__law_code) (defBody s__law_code) (defScope s__law_code) .none kV13 dc13 pm13 an13 cd13 ct13), sl13⟩)
    (c13 : PySem.W.codeIn K cd13 "_law_code" = true)
    (k13 : PySem.W.keepIn K (.ref f13) = true)
    (a14 : PySem.W.nsIn K mainGlobals "_law_speed" = some (some (.ref f14)))
    (l14 : K.lookup f14 = some ⟨oc14, od14, .func (PySem.W.fnOf "_law_speed" "_law_speed" (defArgs s__law_speed) (defBody s__law_speed) (defScope s__law_speed) .none kV14 dc14 pm14 an14 cd14 ct14), sl14⟩)
    (c14 : PySem.W.codeIn K cd14 "_law_speed" = true)
    (k14 : PySem.W.keepIn K (.ref f14) = true)
    (a15 : PySem.W.nsIn K mainGlobals "_law_tone" = some (some (.ref f15)))
    (l15 : K.lookup f15 = some ⟨oc15, od15, .func (PySem.W.fnOf "_law_tone" "_law_tone" (defArgs s__law_tone) (defBody s__law_tone) (defScope s__law_tone) .none kV15 dc15 pm15 an15 cd15 ct15), sl15⟩)
    (c15 : PySem.W.codeIn K cd15 "_law_tone" = true)
    (k15 : PySem.W.keepIn K (.ref f15) = true)
    (a16 : PySem.W.nsIn K mainGlobals "need_code" = some (some (.ref f16)))
    (l16 : K.lookup f16 = some ⟨oc16, od16, .func (PySem.W.fnOf "need_code" "need_code" (defArgs s_need_code) (defBody s_need_code) (defScope s_need_code) .none kV16 dc16 pm16 an16 cd16 ct16), sl16⟩)
    (c16 : PySem.W.codeIn K cd16 "need_code" = true)
    (k16 : PySem.W.keepIn K (.ref f16) = true)
    (a17 : PySem.W.nsIn K mainGlobals "is_speed" = some (some (.ref f17)))
    (l17 : K.lookup f17 = some ⟨oc17, od17, .func (PySem.W.fnOf "is_speed" "is_speed" (defArgs s_is_speed) (defBody s_is_speed) (defScope s_is_speed) .none kV17 dc17 pm17 an17 cd17 ct17), sl17⟩)
    (c17 : PySem.W.codeIn K cd17 "is_speed" = true)
    (k17 : PySem.W.keepIn K (.ref f17) = true)
    (a18 : PySem.W.findIn K (.ref oC0) "wish" = some (some (.ref f18)))
    (i18 : PySem.W.isFn K (.ref f18) = true)
    (l18 : K.lookup f18 = some ⟨oc18, od18, .func (PySem.W.fnOf "wish" "Keyer.wish" (defArgs s_Keyer_wish) (defBody s_Keyer_wish) (defScope s_Keyer_wish) .none kV18 dc18 pm18 an18 cd18 ct18), sl18⟩)
    (c18 : PySem.W.codeIn K cd18 "Keyer.wish" = true)
    (k18 : PySem.W.keepIn K (.ref f18) = true)
    (a19 : PySem.W.findIn K (.ref oC0) "note" = some (some (.ref f19)))
    (i19 : PySem.W.isFn K (.ref f19) = true)
    (l19 : K.lookup f19 = some ⟨oc19, od19, .func (PySem.W.fnOf "note" "Keyer.note" (defArgs s_Keyer_note) (defBody s_Keyer_note) (defScope s_Keyer_note) .none kV19 dc19 pm19 an19 cd19 ct19), sl19⟩)
    (c19 : PySem.W.codeIn K cd19 "Keyer.note" = true)
    (k19 : PySem.W.keepIn K (.ref f19) = true)
    (a20 : PySem.W.nsIn K mainGlobals "need_hand" = some (some (.ref f20)))
    (l20 : K.lookup f20 = some ⟨oc20, od20, .func (PySem.W.fnOf "need_hand" "need_hand" (defArgs s_need_hand) (defBody s_need_hand) (defScope s_need_hand) .none kV20 dc20 pm20 an20 cd20 ct20), sl20⟩)
    (c20 : PySem.W.codeIn K cd20 "need_hand" = true)
    (k20 : PySem.W.keepIn K (.ref f20) = true)
    (a21 : PySem.W.nsIn K mainGlobals "comes" = some (some (.ref f21)))
    (l21 : K.lookup f21 = some ⟨oc21, od21, .func (PySem.W.fnOf "comes" "comes" (defArgs s_comes) (defBody s_comes) (defScope s_comes) .none kV21 dc21 pm21 an21 cd21 ct21), sl21⟩)
    (c21 : PySem.W.codeIn K cd21 "comes" = true)
    (k21 : PySem.W.keepIn K (.ref f21) = true)
    (a22 : PySem.W.nsIn K mainGlobals "need_speed" = some (some (.ref f22)))
    (l22 : K.lookup f22 = some ⟨oc22, od22, .func (PySem.W.fnOf "need_speed" "need_speed" (defArgs s_need_speed) (defBody s_need_speed) (defScope s_need_speed) .none kV22 dc22 pm22 an22 cd22 ct22), sl22⟩)
    (c22 : PySem.W.codeIn K cd22 "need_speed" = true)
    (k22 : PySem.W.keepIn K (.ref f22) = true)
    (a23 : PySem.W.findIn K (.ref oC0) "begin" = some (some (.ref f23)))
    (i23 : PySem.W.isFn K (.ref f23) = true)
    (l23 : K.lookup f23 = some ⟨oc23, od23, .func (PySem.W.fnOf "begin" "Keyer.begin" (defArgs s_Keyer_begin) (defBody s_Keyer_begin) (defScope s_Keyer_begin) .none kV23 dc23 pm23 an23 cd23 ct23), sl23⟩)
    (c23 : PySem.W.codeIn K cd23 "Keyer.begin" = true)
    (k23 : PySem.W.keepIn K (.ref f23) = true)
    (a24 : PySem.W.findIn K (.ref oC0) "is_at_rest" = some (some (.ref f24)))
    (i24 : PySem.W.isFn K (.ref f24) = true)
    (l24 : K.lookup f24 = some ⟨oc24, od24, .func (PySem.W.fnOf "is_at_rest" "Keyer.is_at_rest" (defArgs s_Keyer_is_at_rest) (defBody s_Keyer_is_at_rest) (defScope s_Keyer_is_at_rest) .none kV24 dc24 pm24 an24 cd24 ct24), sl24⟩)
    (c24 : PySem.W.codeIn K cd24 "Keyer.is_at_rest" = true)
    (k24 : PySem.W.keepIn K (.ref f24) = true)
    (a25 : PySem.W.nsIn K mainGlobals "holds_for" = some (some (.ref f25)))
    (l25 : K.lookup f25 = some ⟨oc25, od25, .func (PySem.W.fnOf "holds_for" "holds_for" (defArgs s_holds_for) (defBody s_holds_for) (defScope s_holds_for) .none kV25 dc25 pm25 an25 cd25 ct25), sl25⟩)
    (c25 : PySem.W.codeIn K cd25 "holds_for" = true)
    (k25 : PySem.W.keepIn K (.ref f25) = true)
    (a26 : PySem.W.findIn K (.ref oC0) "__init__" = some (some (.ref f26)))
    (i26 : PySem.W.isFn K (.ref f26) = true)
    (l26 : K.lookup f26 = some ⟨oc26, od26, .func (PySem.W.fnOf "__init__" "Keyer.__init__" (defArgs s_Keyer___init__) (defBody s_Keyer___init__) (defScope s_Keyer___init__) .none kV26 dc26 pm26 an26 cd26 ct26), sl26⟩)
    (c26 : PySem.W.codeIn K cd26 "Keyer.__init__" = true)
    (k26 : PySem.W.keepIn K (.ref f26) = true)
    (a27 : PySem.W.findIn K (.ref oC0) "step" = some (some (.ref f27)))
    (i27 : PySem.W.isFn K (.ref f27) = true)
    (l27 : K.lookup f27 = some ⟨oc27, od27, .func (PySem.W.fnOf "step" "Keyer.step" (defArgs s_Keyer_step) (defBody s_Keyer_step) (defScope s_Keyer_step) .none kV27 dc27 pm27 an27 cd27 ct27), sl27⟩)
    (c27 : PySem.W.codeIn K cd27 "Keyer.step" = true)
    (k27 : PySem.W.keepIn K (.ref f27) = true)
    (a28 : PySem.W.nsIn K mainGlobals "look_at" = some (some (.ref f28)))
    (l28 : K.lookup f28 = some ⟨oc28, od28, .func (PySem.W.fnOf "look_at" "look_at" (defArgs s_look_at) (defBody s_look_at) (defScope s_look_at) .none kV28 dc28 pm28 an28 cd28 ct28), sl28⟩)
    (c28 : PySem.W.codeIn K cd28 "look_at" = true)
    (k28 : PySem.W.keepIn K (.ref f28) = true)
    (a29 : PySem.W.nsIn K mainGlobals "fewest" = some (some (.ref f29)))
    (l29 : K.lookup f29 = some ⟨oc29, od29, .func (PySem.W.fnOf "fewest" "fewest" (defArgs s_fewest) (defBody s_fewest) (defScope s_fewest) .none kV29 dc29 pm29 an29 cd29 ct29), sl29⟩)
    (c29 : PySem.W.codeIn K cd29 "fewest" = true)
    (k29 : PySem.W.keepIn K (.ref f29) = true)
    (a30 : PySem.W.nsIn K mainGlobals "holds" = some (some (.ref f30)))
    (l30 : K.lookup f30 = some ⟨oc30, od30, .func (PySem.W.fnOf "holds" "holds" (defArgs s_holds) (defBody s_holds) (defScope s_holds) .none kV30 dc30 pm30 an30 cd30 ct30), sl30⟩)
    (c30 : PySem.W.codeIn K cd30 "holds" = true)
    (k30 : PySem.W.keepIn K (.ref f30) = true)
    (a31 : PySem.W.nsIn K mainGlobals "spread" = some (some (.ref f31)))
    (l31 : K.lookup f31 = some ⟨oc31, od31, .func (PySem.W.fnOf "spread" "spread" (defArgs s_spread) (defBody s_spread) (defScope s_spread) .none kV31 dc31 pm31 an31 cd31 ct31), sl31⟩)
    (c31 : PySem.W.codeIn K cd31 "spread" = true)
    (k31 : PySem.W.keepIn K (.ref f31) = true)
    (a32 : PySem.W.nsIn K mainGlobals "keyed" = some (some (.ref f32)))
    (l32 : K.lookup f32 = some ⟨oc32, od32, .func (PySem.W.fnOf "keyed" "keyed" (defArgs s_keyed) (defBody s_keyed) (defScope s_keyed) .none kV32 dc32 pm32 an32 cd32 ct32), sl32⟩)
    (c32 : PySem.W.codeIn K cd32 "keyed" = true)
    (k32 : PySem.W.keepIn K (.ref f32) = true)
    (a33 : PySem.W.nsIn K mainGlobals "played" = some (some (.ref f33)))
    (l33 : K.lookup f33 = some ⟨oc33, od33, .func (PySem.W.fnOf "played" "played" (defArgs s_played) (defBody s_played) (defScope s_played) .none kV33 dc33 pm33 an33 cd33 ct33), sl33⟩)
    (c33 : PySem.W.codeIn K cd33 "played" = true)
    (k33 : PySem.W.keepIn K (.ref f33) = true)
    (a34 : PySem.W.nsIn K mainGlobals "all_made" = some (some (.ref f34)))
    (l34 : K.lookup f34 = some ⟨oc34, od34, .func (PySem.W.fnOf "all_made" "all_made" (defArgs s_all_made) (defBody s_all_made) (defScope s_all_made) .none kV34 dc34 pm34 an34 cd34 ct34), sl34⟩)
    (c34 : PySem.W.codeIn K cd34 "all_made" = true)
    (k34 : PySem.W.keepIn K (.ref f34) = true)
    (a35 : PySem.W.nsIn K mainGlobals "law" = some (some (.ref f35)))
    (l35 : K.lookup f35 = some ⟨oc35, od35, .func (PySem.W.fnOf "law" "law" (defArgs s_law) (defBody s_law) (defScope s_law) .none kV35 dc35 pm35 an35 (.ref cc35) ct35), sl35⟩)
    (c35 : PySem.W.codeIn K (.ref cc35) "law" = true)
    (k35 : PySem.W.keepIn K (.ref f35) = true)
    (tn35 : K.lookup tb35 = none)
    (ea0 : PySem.W.nsIn K mainGlobals "BadManner" = some (some (.ref e0)))
    (ex0 : PySem.W.excIn K e0 [.type "ValueError", .type "Exception", .type "BaseException", .type "object"] "ValueError.__new__" = true)
    (ek0 : PySem.W.keepIn K (.ref e0) = true)
    (eb0 : PySem.W.subIn K (.ref e0) (.type "BaseException") = some true)
    (et0 : PySem.W.typeIn K (.ref e0) = some (.type "type"))
    (ea1 : PySem.W.nsIn K mainGlobals "BadCode" = some (some (.ref e1)))
    (ex1 : PySem.W.excIn K e1 [.type "ValueError", .type "Exception", .type "BaseException", .type "object"] "ValueError.__new__" = true)
    (ek1 : PySem.W.keepIn K (.ref e1) = true)
    (eb1 : PySem.W.subIn K (.ref e1) (.type "BaseException") = some true)
    (et1 : PySem.W.typeIn K (.ref e1) = some (.type "type"))
    (ea2 : PySem.W.nsIn K mainGlobals "BadHand" = some (some (.ref e2)))
    (ex2 : PySem.W.excIn K e2 [.type "ValueError", .type "Exception", .type "BaseException", .type "object"] "ValueError.__new__" = true)
    (ek2 : PySem.W.keepIn K (.ref e2) = true)
    (eb2 : PySem.W.subIn K (.ref e2) (.type "BaseException") = some true)
    (et2 : PySem.W.typeIn K (.ref e2) = some (.type "type"))
    (ea3 : PySem.W.nsIn K mainGlobals "BadNumber" = some (some (.ref e3)))
    (ex3 : PySem.W.excIn K e3 [.type "ValueError", .type "Exception", .type "BaseException", .type "object"] "ValueError.__new__" = true)
    (ek3 : PySem.W.keepIn K (.ref e3) = true)
    (eb3 : PySem.W.subIn K (.ref e3) (.type "BaseException") = some true)
    (et3 : PySem.W.typeIn K (.ref e3) = some (.type "type"))
    (ea4 : PySem.W.nsIn K mainGlobals "BadBook" = some (some (.ref e4)))
    (ea5 : PySem.W.nsIn K mainGlobals "BadSign" = some (some (.ref e5)))
    (ea6 : PySem.W.nsIn K mainGlobals "BadText" = some (some (.ref e6)))
    (ea7 : PySem.W.nsIn K mainGlobals "BadRuns" = some (some (.ref e7)))
    (ea8 : PySem.W.nsIn K mainGlobals "KeysError" = some (some (.ref e8)))
    (xn : PySem.W.specialIn K (.builtin "object.__class__") "__get__" = some (some (.builtin "getset_descriptor.__get__")))
    (xt : PySem.W.takesIn K (.builtin "object.__class__") = some true)
    (kt0_0 : PySem.W.kitOne K (.ref e0) (.ref e4) = some false)
    (kt0_1 : PySem.W.kitOne K (.ref e0) (.ref e5) = some false)
    (kt0_2 : PySem.W.kitOne K (.ref e0) (.ref e1) = some false)
    (kt0_3 : PySem.W.kitOne K (.ref e0) (.ref e6) = some false)
    (kt0_4 : PySem.W.kitOne K (.ref e0) (.ref e3) = some false)
    (kt0_5 : PySem.W.kitOne K (.ref e0) (.ref e7) = some false)
    (kt0_6 : PySem.W.kitOne K (.ref e0) (.ref e0) = some true)
    (kt0_7 : PySem.W.kitOne K (.ref e0) (.ref e2) = some false)
    (kv0 : PySem.W.kitOne K (.ref e0) (.type "ValueError") = some true)
    (kc0 : PySem.W.exmOne K (.ref e0) (.ref e8) = some true)
    (xg0 : PySem.W.findIn K (.ref e0) "__getattribute__" = some (some (.builtin "BaseException.__getattribute__")))
    (xk0 : PySem.W.findIn K (.ref e0) "__getattr__" = some none)
    (xd0 : PySem.W.hasDictIn K e0 = true)
    (xa0 : PySem.W.findIn K (.ref e0) "__class__" = some (some (.builtin "object.__class__")))
    (xm0 : PySem.W.mroIn K e0 (.type "object") = some true)
    (kt1_0 : PySem.W.kitOne K (.ref e1) (.ref e4) = some false)
    (kt1_1 : PySem.W.kitOne K (.ref e1) (.ref e5) = some false)
    (kt1_2 : PySem.W.kitOne K (.ref e1) (.ref e1) = some true)
    (kt1_3 : PySem.W.kitOne K (.ref e1) (.ref e6) = some false)
    (kt1_4 : PySem.W.kitOne K (.ref e1) (.ref e3) = some false)
    (kt1_5 : PySem.W.kitOne K (.ref e1) (.ref e7) = some false)
    (kt1_6 : PySem.W.kitOne K (.ref e1) (.ref e0) = some false)
    (kt1_7 : PySem.W.kitOne K (.ref e1) (.ref e2) = some false)
    (kv1 : PySem.W.kitOne K (.ref e1) (.type "ValueError") = some true)
    (kc1 : PySem.W.exmOne K (.ref e1) (.ref e8) = some true)
    (xg1 : PySem.W.findIn K (.ref e1) "__getattribute__" = some (some (.builtin "BaseException.__getattribute__")))
    (xk1 : PySem.W.findIn K (.ref e1) "__getattr__" = some none)
    (xd1 : PySem.W.hasDictIn K e1 = true)
    (xa1 : PySem.W.findIn K (.ref e1) "__class__" = some (some (.builtin "object.__class__")))
    (xm1 : PySem.W.mroIn K e1 (.type "object") = some true)
    (kt2_0 : PySem.W.kitOne K (.ref e2) (.ref e4) = some false)
    (kt2_1 : PySem.W.kitOne K (.ref e2) (.ref e5) = some false)
    (kt2_2 : PySem.W.kitOne K (.ref e2) (.ref e1) = some false)
    (kt2_3 : PySem.W.kitOne K (.ref e2) (.ref e6) = some false)
    (kt2_4 : PySem.W.kitOne K (.ref e2) (.ref e3) = some false)
    (kt2_5 : PySem.W.kitOne K (.ref e2) (.ref e7) = some false)
    (kt2_6 : PySem.W.kitOne K (.ref e2) (.ref e0) = some false)
    (kt2_7 : PySem.W.kitOne K (.ref e2) (.ref e2) = some true)
    (kv2 : PySem.W.kitOne K (.ref e2) (.type "ValueError") = some true)
    (kc2 : PySem.W.exmOne K (.ref e2) (.ref e8) = some true)
    (xg2 : PySem.W.findIn K (.ref e2) "__getattribute__" = some (some (.builtin "BaseException.__getattribute__")))
    (xk2 : PySem.W.findIn K (.ref e2) "__getattr__" = some none)
    (xd2 : PySem.W.hasDictIn K e2 = true)
    (xa2 : PySem.W.findIn K (.ref e2) "__class__" = some (some (.builtin "object.__class__")))
    (xm2 : PySem.W.mroIn K e2 (.type "object") = some true)
    (kt3_0 : PySem.W.kitOne K (.ref e3) (.ref e4) = some false)
    (kt3_1 : PySem.W.kitOne K (.ref e3) (.ref e5) = some false)
    (kt3_2 : PySem.W.kitOne K (.ref e3) (.ref e1) = some false)
    (kt3_3 : PySem.W.kitOne K (.ref e3) (.ref e6) = some false)
    (kt3_4 : PySem.W.kitOne K (.ref e3) (.ref e3) = some true)
    (kt3_5 : PySem.W.kitOne K (.ref e3) (.ref e7) = some false)
    (kt3_6 : PySem.W.kitOne K (.ref e3) (.ref e0) = some false)
    (kt3_7 : PySem.W.kitOne K (.ref e3) (.ref e2) = some false)
    (kv3 : PySem.W.kitOne K (.ref e3) (.type "ValueError") = some true)
    (kc3 : PySem.W.exmOne K (.ref e3) (.ref e8) = some true)
    (xg3 : PySem.W.findIn K (.ref e3) "__getattribute__" = some (some (.builtin "BaseException.__getattribute__")))
    (xk3 : PySem.W.findIn K (.ref e3) "__getattr__" = some none)
    (xd3 : PySem.W.hasDictIn K e3 = true)
    (xa3 : PySem.W.findIn K (.ref e3) "__class__" = some (some (.builtin "object.__class__")))
    (xm3 : PySem.W.mroIn K e3 (.type "object") = some true)
    (z_ValueError : PySem.W.nsIn K mainGlobals "ValueError" = some none)
    (z_all : PySem.W.nsIn K mainGlobals "all" = some none)
    (z_bool : PySem.W.nsIn K mainGlobals "bool" = some none)
    (z_int : PySem.W.nsIn K mainGlobals "int" = some none)
    (z_isinstance : PySem.W.nsIn K mainGlobals "isinstance" = some none)
    (z_len : PySem.W.nsIn K mainGlobals "len" = some none)
    (z_list : PySem.W.nsIn K mainGlobals "list" = some none)
    (z_max : PySem.W.nsIn K mainGlobals "max" = some none)
    (z_min : PySem.W.nsIn K mainGlobals "min" = some none)
    (z_range : PySem.W.nsIn K mainGlobals "range" = some none)
    (z_set : PySem.W.nsIn K mainGlobals "set" = some none)
    (z_str : PySem.W.nsIn K mainGlobals "str" = some none)
    (z_sum : PySem.W.nsIn K mainGlobals "sum" = some none)
    (z_tuple : PySem.W.nsIn K mainGlobals "tuple" = some none)
    (z_zip : PySem.W.nsIn K mainGlobals "zip" = some none)
    (cc0 : PySem.W.nsIn K mainGlobals "MOST_CODE" = some (some (.int 6 t0)))
    (cc1 : PySem.W.nsIn K mainGlobals "MOST_UNIT" = some (some (.int 9 t1)))
    (cc2 : PySem.W.nsIn K mainGlobals "MANNERS" = some (some (.ref p2)))
    (cl2 : K.lookup p2 = some ⟨.type "tuple", d2, .seq #[.str "plain" u2_0, .str "a" u2_1, .str "b" u2_2] n2, s2⟩)
    (cc3 : PySem.W.nsIn K mainGlobals "MOST_HAND" = some (some (.int 600 t3)))
    (cc4 : PySem.W.nsIn K mainGlobals "HOLDS" = some (some (.ref p4)))
    (cl4 : K.lookup p4 = some ⟨.type "tuple", d4, .seq #[.ref p4_0, .ref p4_1, .ref p4_2, .ref p4_3] n4, s4⟩)
    (cl4_0 : K.lookup p4_0 = some ⟨.type "tuple", d4_0, .seq #[.bool false, .bool false] n4_0, s4_0⟩)
    (cl4_1 : K.lookup p4_1 = some ⟨.type "tuple", d4_1, .seq #[.bool false, .bool true] n4_1, s4_1⟩)
    (cl4_2 : K.lookup p4_2 = some ⟨.type "tuple", d4_2, .seq #[.bool true, .bool false] n4_2, s4_2⟩)
    (cl4_3 : K.lookup p4_3 = some ⟨.type "tuple", d4_3, .seq #[.bool true, .bool true] n4_3, s4_3⟩) :
    LamX.LawAtS l w K (L2N.CX l.prog w) 8 63 "script" mg fa h := by
  have e := hfa.symm.trans (PySem.W.mg_of X G a35)
  cases e
  have F0 := fun_mk (st := s_is_code) l0 c0 k0
  have F1 := fun_mk (st := s_is_count) l1 c1 k1
  have F2 := fun_mk (st := s_tone_long) l2 c2 k2
  have F3 := fun_mk (st := s_gap_long) l3 c3 k3
  have F4 := fun_mk (st := s_need_manner) l4 c4 k4
  have F5 := fun_mk (st := s_other_one) l5 c5 k5
  have F6 := fun_mk (st := s_Keyer_made) l6 c6 k6
  have F7 := fun_mk (st := s_are_keys) l7 c7 k7
  have F8 := fun_mk (st := s_presses) l8 c8 k8
  have F9 := fun_mk (st := s__law_cell) l9 c9 k9
  have F10 := fun_mk (st := s__law_drawn) l10 c10 k10
  have F11 := fun_mk (st := s__law_word) l11 c11 k11
  have F12 := fun_mk (st := s__law_told) l12 c12 k12
  have F13 := fun_mk (st := s__law_code) l13 c13 k13
  have F14 := fun_mk (st := s__law_speed) l14 c14 k14
  have F15 := fun_mk (st := s__law_tone) l15 c15 k15
  have F16 := fun_mk (st := s_need_code) l16 c16 k16
  have F17 := fun_mk (st := s_is_speed) l17 c17 k17
  have F18 := fun_mk (st := s_Keyer_wish) l18 c18 k18
  have F19 := fun_mk (st := s_Keyer_note) l19 c19 k19
  have F20 := fun_mk (st := s_need_hand) l20 c20 k20
  have F21 := fun_mk (st := s_comes) l21 c21 k21
  have F22 := fun_mk (st := s_need_speed) l22 c22 k22
  have F23 := fun_mk (st := s_Keyer_begin) l23 c23 k23
  have F24 := fun_mk (st := s_Keyer_is_at_rest) l24 c24 k24
  have F25 := fun_mk (st := s_holds_for) l25 c25 k25
  have F26 := fun_mk (st := s_Keyer___init__) l26 c26 k26
  have F27 := fun_mk (st := s_Keyer_step) l27 c27 k27
  have F28 := fun_mk (st := s_look_at) l28 c28 k28
  have F29 := fun_mk (st := s_fewest) l29 c29 k29
  have F30 := fun_mk (st := s_holds) l30 c30 k30
  have F31 := fun_mk (st := s_spread) l31 c31 k31
  have F32 := fun_mk (st := s_keyed) l32 c32 k32
  have F33 := fun_mk (st := s_played) l33 c33 k33
  have F34 := fun_mk (st := s_all_made) l34 c34 k34
  have F35 := (letI : Tabl := ⟨[], fun _ => 0, 0⟩; funC_mk (st := s_law) l35 c35 k35)
  have b0 := F0.binds (ps := ["thing"]) fun _ _ _ _ _ _ us hl => match us, hl with | [_], _ => rfl
  have b1 := F1.binds (ps := ["thing", "low", "high"]) fun _ _ _ _ _ _ us hl => match us, hl with | [_, _, _], _ => rfl
  have b2 := F2.binds (ps := ["speed", "element"]) fun _ _ _ _ _ _ us hl => match us, hl with | [_, _], _ => rfl
  have b3 := F3.binds (ps := ["speed", "units"]) fun _ _ _ _ _ _ us hl => match us, hl with | [_, _], _ => rfl
  have b4 := F4.binds (ps := ["manner"]) fun _ _ _ _ _ _ us hl => match us, hl with | [_], _ => rfl
  have b5 := F5.binds (ps := ["element"]) fun _ _ _ _ _ _ us hl => match us, hl with | [_], _ => rfl
  have b6 := F6.binds (ps := ["self"]) fun _ _ _ _ _ _ us hl => match us, hl with | [_], _ => rfl
  have b7 := F7.binds (ps := ["thing"]) fun _ _ _ _ _ _ us hl => match us, hl with | [_], _ => rfl
  have b8 := F8.binds (ps := ["before", "held"]) fun _ _ _ _ _ _ us hl => match us, hl with | [_, _], _ => rfl
  have b9 := F9.binds (ps := ["script", "k"]) fun _ _ _ _ _ _ us hl => match us, hl with | [_, _], _ => rfl
  have b10 := F10.binds (ps := ["cell", "k"]) fun _ _ _ _ _ _ us hl => match us, hl with | [_, _], _ => rfl
  have b11 := F11.binds (ps := ["e"]) fun _ _ _ _ _ _ us hl => match us, hl with | [_], _ => rfl
  have b12 := F12.binds (ps := ["deed"]) fun _ _ _ _ _ _ us hl => match us, hl with | [_], _ => rfl
  have b13 := F13.binds (ps := ["number"]) fun _ _ _ _ _ _ us hl => match us, hl with | [_], _ => rfl
  have b14 := F14.binds (ps := ["more"]) fun _ _ _ _ _ _ us hl => match us, hl with | [_], _ => rfl
  have b15 := F15.binds (ps := ["speed", "element"]) fun _ _ _ _ _ _ us hl => match us, hl with | [_, _], _ => rfl
  have b16 := F16.binds (ps := ["code"]) fun _ _ _ _ _ _ us hl => match us, hl with | [_], _ => rfl
  have b17 := F17.binds (ps := ["thing"]) fun _ _ _ _ _ _ us hl => match us, hl with | [_], _ => rfl
  have b18 := F18.binds (ps := ["self", "left", "right"]) fun _ _ _ _ _ _ us hl => match us, hl with | [_, _, _], _ => rfl
  have b19 := F19.binds (ps := ["self", "left", "right"]) fun _ _ _ _ _ _ us hl => match us, hl with | [_, _, _], _ => rfl
  have b20 := F20.binds (ps := ["hand"]) fun _ _ _ _ _ _ us hl => match us, hl with | [_], _ => rfl
  have b21 := F21.binds (ps := ["manner", "before", "held", "last"]) fun _ _ _ _ _ _ us hl => match us, hl with | [_, _, _, _], _ => rfl
  have b22 := F22.binds (ps := ["speed"]) fun _ _ _ _ _ _ us hl => match us, hl with | [_], _ => rfl
  have b23 := F23.binds (ps := ["self", "left", "right"]) fun _ _ _ _ _ _ us hl => match us, hl with | [_, _, _], _ => rfl
  have b24 := F24.binds (ps := ["self"]) fun _ _ _ _ _ _ us hl => match us, hl with | [_], _ => rfl
  have b25 := F25.binds (ps := ["manner", "code"]) fun _ _ _ _ _ _ us hl => match us, hl with | [_, _], _ => rfl
  have b26 := F26.binds (ps := ["self", "manner", "speed"]) fun _ _ _ _ _ _ us hl => match us, hl with | [_, _, _], _ => rfl
  have b27 := F27.binds (ps := ["self", "left", "right"]) fun _ _ _ _ _ _ us hl => match us, hl with | [_, _, _], _ => rfl
  have b28 := F28.binds (ps := ["manner", "speed", "hand"]) fun _ _ _ _ _ _ us hl => match us, hl with | [_, _, _], _ => rfl
  have b29 := F29.binds (ps := ["manner", "code"]) fun _ _ _ _ _ _ us hl => match us, hl with | [_, _], _ => rfl
  have b30 := F30.binds (ps := ["manner", "code"]) fun _ _ _ _ _ _ us hl => match us, hl with | [_, _], _ => rfl
  have b31 := F31.binds (ps := ["code", "some", "speed"]) fun _ _ _ _ _ _ us hl => match us, hl with | [_, _, _], _ => rfl
  have b32 := F32.binds (ps := ["manner", "speed", "hand"]) fun _ _ _ _ _ _ us hl => match us, hl with | [_, _, _], _ => rfl
  have b33 := F33.binds (ps := ["manner", "speed", "hand"]) fun _ _ _ _ _ _ us hl => match us, hl with | [_, _, _], _ => rfl
  have b34 := F34.binds (ps := ["manner", "speed", "hand"]) fun _ _ _ _ _ _ us hl => match us, hl with | [_, _, _], _ => rfl
  have b35 := (letI : Tabl := ⟨[], fun _ => 0, 0⟩; F35.f).binds (ps := ["script"]) fun _ _ _ _ _ _ us hl => match us, hl with | [_], _ => rfl
  obtain ⟨cl, hc0, hc1, hc2, hc3, hc4, hc5, hc6, hc7, hc8⟩ : ∃ cl : Str → Addr, cl "BadManner" = e0 ∧ cl "BadCode" = e1 ∧ cl "BadHand" = e2 ∧ cl "BadNumber" = e3 ∧ cl "BadBook" = e4 ∧ cl "BadSign" = e5 ∧ cl "BadText" = e6 ∧ cl "BadRuns" = e7 ∧ cl "KeysError" = e8 := ⟨fun s => if s = "BadManner" then e0 else if s = "BadCode" then e1 else if s = "BadHand" then e2 else if s = "BadNumber" then e3 else if s = "BadBook" then e4 else if s = "BadSign" then e5 else if s = "BadText" then e6 else if s = "BadRuns" then e7 else if s = "KeysError" then e8 else 0, (by dsimp only; rw [if_pos rfl]), (by dsimp only; rw [if_neg (by decide), if_pos rfl]), (by dsimp only; rw [if_neg (by decide), if_neg (by decide), if_pos rfl]), (by dsimp only; rw [if_neg (by decide), if_neg (by decide), if_neg (by decide), if_pos rfl]), (by dsimp only; rw [if_neg (by decide), if_neg (by decide), if_neg (by decide), if_neg (by decide), if_pos rfl]), (by dsimp only; rw [if_neg (by decide), if_neg (by decide), if_neg (by decide), if_neg (by decide), if_neg (by decide), if_pos rfl]), (by dsimp only; rw [if_neg (by decide), if_neg (by decide), if_neg (by decide), if_neg (by decide), if_neg (by decide), if_neg (by decide), if_pos rfl]), (by dsimp only; rw [if_neg (by decide), if_neg (by decide), if_neg (by decide), if_neg (by decide), if_neg (by decide), if_neg (by decide), if_neg (by decide), if_pos rfl]), (by dsimp only; rw [if_neg (by decide), if_neg (by decide), if_neg (by decide), if_neg (by decide), if_neg (by decide), if_neg (by decide), if_neg (by decide), if_neg (by decide), if_pos rfl])⟩
  obtain ⟨ca, ho0⟩ : ∃ ca : Str → Addr, ca "Keyer" = oC0 := ⟨fun s => if s = "Keyer" then oC0 else 0, (by dsimp only; rw [if_pos rfl])⟩
  have wd : ∀ c ∈ excs, WordT K cl excw (cl "KeysError") c := by
    intro c hc
    unfold excs at hc
    simp only [List.mem_cons, List.not_mem_nil, or_false] at hc
    rcases hc with rfl | rfl | rfl | rfl
    · refine ⟨fun x hx => ?_, by rw [hc0]; exact kv0, by rw [hc0]; exact ⟨xg0, xk0, eb0, xd0, xa0, xn, xt, xm0⟩, by rw [hc0, hc8]; exact kc0⟩
      unfold excw at hx
      simp only [List.mem_cons, List.not_mem_nil, or_false] at hx
      rcases hx with rfl | rfl | rfl | rfl | rfl | rfl | rfl | rfl
      · rw [hc0, hc4]; exact kt0_0.trans (by decide)
      · rw [hc0, hc5]; exact kt0_1.trans (by decide)
      · rw [hc0, hc1]; exact kt0_2.trans (by decide)
      · rw [hc0, hc6]; exact kt0_3.trans (by decide)
      · rw [hc0, hc3]; exact kt0_4.trans (by decide)
      · rw [hc0, hc7]; exact kt0_5.trans (by decide)
      · rw [hc0]; exact kt0_6.trans (by decide)
      · rw [hc0, hc2]; exact kt0_7.trans (by decide)
    · refine ⟨fun x hx => ?_, by rw [hc1]; exact kv1, by rw [hc1]; exact ⟨xg1, xk1, eb1, xd1, xa1, xn, xt, xm1⟩, by rw [hc1, hc8]; exact kc1⟩
      unfold excw at hx
      simp only [List.mem_cons, List.not_mem_nil, or_false] at hx
      rcases hx with rfl | rfl | rfl | rfl | rfl | rfl | rfl | rfl
      · rw [hc1, hc4]; exact kt1_0.trans (by decide)
      · rw [hc1, hc5]; exact kt1_1.trans (by decide)
      · rw [hc1]; exact kt1_2.trans (by decide)
      · rw [hc1, hc6]; exact kt1_3.trans (by decide)
      · rw [hc1, hc3]; exact kt1_4.trans (by decide)
      · rw [hc1, hc7]; exact kt1_5.trans (by decide)
      · rw [hc1, hc0]; exact kt1_6.trans (by decide)
      · rw [hc1, hc2]; exact kt1_7.trans (by decide)
    · refine ⟨fun x hx => ?_, by rw [hc2]; exact kv2, by rw [hc2]; exact ⟨xg2, xk2, eb2, xd2, xa2, xn, xt, xm2⟩, by rw [hc2, hc8]; exact kc2⟩
      unfold excw at hx
      simp only [List.mem_cons, List.not_mem_nil, or_false] at hx
      rcases hx with rfl | rfl | rfl | rfl | rfl | rfl | rfl | rfl
      · rw [hc2, hc4]; exact kt2_0.trans (by decide)
      · rw [hc2, hc5]; exact kt2_1.trans (by decide)
      · rw [hc2, hc1]; exact kt2_2.trans (by decide)
      · rw [hc2, hc6]; exact kt2_3.trans (by decide)
      · rw [hc2, hc3]; exact kt2_4.trans (by decide)
      · rw [hc2, hc7]; exact kt2_5.trans (by decide)
      · rw [hc2, hc0]; exact kt2_6.trans (by decide)
      · rw [hc2]; exact kt2_7.trans (by decide)
    · refine ⟨fun x hx => ?_, by rw [hc3]; exact kv3, by rw [hc3]; exact ⟨xg3, xk3, eb3, xd3, xa3, xn, xt, xm3⟩, by rw [hc3, hc8]; exact kc3⟩
      unfold excw at hx
      simp only [List.mem_cons, List.not_mem_nil, or_false] at hx
      rcases hx with rfl | rfl | rfl | rfl | rfl | rfl | rfl | rfl
      · rw [hc3, hc4]; exact kt3_0.trans (by decide)
      · rw [hc3, hc5]; exact kt3_1.trans (by decide)
      · rw [hc3, hc1]; exact kt3_2.trans (by decide)
      · rw [hc3, hc6]; exact kt3_3.trans (by decide)
      · rw [hc3]; exact kt3_4.trans (by decide)
      · rw [hc3, hc7]; exact kt3_5.trans (by decide)
      · rw [hc3, hc0]; exact kt3_6.trans (by decide)
      · rw [hc3, hc2]; exact kt3_7.trans (by decide)
  have T : Txt K mg cl ca (A := ⟨f0, f1, f2, f3, f4, f5, f6, f7, f8, f9, f10, f11, f12, f13, f14, f15, f16, f17, f18, f19, f20, f21, f22, f23, f24, f25, f26, f27, f28, f29, f30, f31, f32, f33, f34, fa, cc35, tb35⟩) (D := ⟨_, _, _, _, _, _, _, _, _, _, _, _, _, _, _, _, _, _, _, _, _, _, _, _, _, _, _, _, _, _, _, _, _, _, _, _⟩) := { z_ValueError := PySem.W.mg_none_of X G z_ValueError, z_all := PySem.W.mg_none_of X G z_all, z_bool := PySem.W.mg_none_of X G z_bool, z_int := PySem.W.mg_none_of X G z_int, z_isinstance := PySem.W.mg_none_of X G z_isinstance, z_len := PySem.W.mg_none_of X G z_len, z_list := PySem.W.mg_none_of X G z_list, z_max := PySem.W.mg_none_of X G z_max, z_min := PySem.W.mg_none_of X G z_min, z_range := PySem.W.mg_none_of X G z_range, z_set := PySem.W.mg_none_of X G z_set, z_str := PySem.W.mg_none_of X G z_str, z_sum := PySem.W.mg_none_of X G z_sum, z_tuple := PySem.W.mg_none_of X G z_tuple, z_zip := PySem.W.mg_none_of X G z_zip, cl_Keyer := (by rw [ho0]; exact ⟨opg0, ohd0, opo0, osa0⟩), g_Keyer := (by rw [ho0]; exact PySem.W.mg_of X G oa0), mk_Keyer := (by rw [ho0]; exact ⟨omk0, a26, i26, okc0⟩), no_Keyer_manner := (by rw [ho0]; exact on0_0), no_Keyer_speed := (by rw [ho0]; exact on0_1), no_Keyer_element := (by rw [ho0]; exact on0_2), no_Keyer_tone_left := (by rw [ho0]; exact on0_3), no_Keyer_gap_left := (by rw [ho0]; exact on0_4), no_Keyer_ahead := (by rw [ho0]; exact on0_5), no_Keyer_is_squeezed := (by rw [ho0]; exact on0_6), no_Keyer_held := (by rw [ho0]; exact on0_7), no_Keyer_rows := (by rw [ho0]; exact on0_8), no_Keyer_clock := (by rw [ho0]; exact on0_9), F_is_code := F0, b_is_code := b0, g_is_code := PySem.W.mg_of X G a0, F_is_count := F1, b_is_count := b1, g_is_count := PySem.W.mg_of X G a1, F_tone_long := F2, b_tone_long := b2, g_tone_long := PySem.W.mg_of X G a2, F_gap_long := F3, b_gap_long := b3, g_gap_long := PySem.W.mg_of X G a3, F_need_manner := F4, b_need_manner := b4, g_need_manner := PySem.W.mg_of X G a4, F_other_one := F5, b_other_one := b5, g_other_one := PySem.W.mg_of X G a5, F_Keyer_made := F6, b_Keyer_made := b6, m_Keyer_made := (by rw [ho0]; exact ⟨a6, i6, k6⟩), F_are_keys := F7, b_are_keys := b7, g_are_keys := PySem.W.mg_of X G a7, F_presses := F8, b_presses := b8, g_presses := PySem.W.mg_of X G a8, F__law_cell := F9, b__law_cell := b9, g__law_cell := PySem.W.mg_of X G a9, F__law_drawn := F10, b__law_drawn := b10, g__law_drawn := PySem.W.mg_of X G a10, F__law_word := F11, b__law_word := b11, g__law_word := PySem.W.mg_of X G a11, F__law_told := F12, b__law_told := b12, g__law_told := PySem.W.mg_of X G a12, F__law_code := F13, b__law_code := b13, g__law_code := PySem.W.mg_of X G a13, F__law_speed := F14, b__law_speed := b14, g__law_speed := PySem.W.mg_of X G a14, F__law_tone := F15, b__law_tone := b15, g__law_tone := PySem.W.mg_of X G a15, F_need_code := F16, b_need_code := b16, g_need_code := PySem.W.mg_of X G a16, F_is_speed := F17, b_is_speed := b17, g_is_speed := PySem.W.mg_of X G a17, F_Keyer_wish := F18, b_Keyer_wish := b18, m_Keyer_wish := (by rw [ho0]; exact ⟨a18, i18, k18⟩), F_Keyer_note := F19, b_Keyer_note := b19, m_Keyer_note := (by rw [ho0]; exact ⟨a19, i19, k19⟩), F_need_hand := F20, b_need_hand := b20, g_need_hand := PySem.W.mg_of X G a20, F_comes := F21, b_comes := b21, g_comes := PySem.W.mg_of X G a21, F_need_speed := F22, b_need_speed := b22, g_need_speed := PySem.W.mg_of X G a22, F_Keyer_begin := F23, b_Keyer_begin := b23, m_Keyer_begin := (by rw [ho0]; exact ⟨a23, i23, k23⟩), F_Keyer_is_at_rest := F24, b_Keyer_is_at_rest := b24, m_Keyer_is_at_rest := (by rw [ho0]; exact ⟨a24, i24, k24⟩), F_holds_for := F25, b_holds_for := b25, g_holds_for := PySem.W.mg_of X G a25, F_Keyer___init__ := F26, b_Keyer___init__ := b26, F_Keyer_step := F27, b_Keyer_step := b27, m_Keyer_step := (by rw [ho0]; exact ⟨a27, i27, k27⟩), F_look_at := F28, b_look_at := b28, g_look_at := PySem.W.mg_of X G a28, F_fewest := F29, b_fewest := b29, g_fewest := PySem.W.mg_of X G a29, F_holds := F30, b_holds := b30, g_holds := PySem.W.mg_of X G a30, F_spread := F31, b_spread := b31, g_spread := PySem.W.mg_of X G a31, F_keyed := F32, b_keyed := b32, g_keyed := PySem.W.mg_of X G a32, F_played := F33, b_played := b33, g_played := PySem.W.mg_of X G a33, F_all_made := F34, b_all_made := b34, g_all_made := PySem.W.mg_of X G a34, F_law := F35, b_law := b35, g_law := PySem.W.mg_of X G a35, ge_BadManner := (by rw [hc0]; exact PySem.W.mg_of X G ea0), x_BadManner := (by rw [hc0]; exact ex0), k_BadManner := (by rw [hc0]; exact ek0), eb_BadManner := (by rw [hc0]; exact eb0), t_BadManner := (by rw [hc0]; exact et0), ge_BadCode := (by rw [hc1]; exact PySem.W.mg_of X G ea1), x_BadCode := (by rw [hc1]; exact ex1), k_BadCode := (by rw [hc1]; exact ek1), eb_BadCode := (by rw [hc1]; exact eb1), t_BadCode := (by rw [hc1]; exact et1), ge_BadHand := (by rw [hc2]; exact PySem.W.mg_of X G ea2), x_BadHand := (by rw [hc2]; exact ex2), k_BadHand := (by rw [hc2]; exact ek2), eb_BadHand := (by rw [hc2]; exact eb2), t_BadHand := (by rw [hc2]; exact et2), ge_BadNumber := (by rw [hc3]; exact PySem.W.mg_of X G ea3), x_BadNumber := (by rw [hc3]; exact ex3), k_BadNumber := (by rw [hc3]; exact ek3), eb_BadNumber := (by rw [hc3]; exact eb3), t_BadNumber := (by rw [hc3]; exact et3), ge_BadBook := (by rw [hc4]; exact PySem.W.mg_of X G ea4), ge_BadSign := (by rw [hc5]; exact PySem.W.mg_of X G ea5), ge_BadText := (by rw [hc6]; exact PySem.W.mg_of X G ea6), ge_BadRuns := (by rw [hc7]; exact PySem.W.mg_of X G ea7), ge_KeysError := (by rw [hc8]; exact PySem.W.mg_of X G ea8), word := wd, c_MOST_CODE := ⟨⟨_, PySem.W.mg_of X G cc0, ⟨_, rfl⟩⟩⟩, c_MOST_UNIT := ⟨⟨_, PySem.W.mg_of X G cc1, ⟨_, rfl⟩⟩⟩, c_MANNERS := ⟨⟨.ref p2, .ref p2, PySem.W.mg_of X G cc2, rfl, fun H => Rp.tup (xs := [.str "plain", .str "a", .str "b"]) (.inr ⟨_, _, _, cl2, rfl, rfl, (by show 3 ≤ sizeLine; decide), (.cons ⟨_, rfl⟩ (.cons ⟨_, rfl⟩ (.cons ⟨_, rfl⟩ .nil)))⟩) (.cons (.str _) (.cons (.str _) (.cons (.str _) .nil)))⟩⟩, c_MOST_HAND := ⟨⟨_, PySem.W.mg_of X G cc3, ⟨_, rfl⟩⟩⟩, c_HOLDS := ⟨⟨.ref p4, .ref p4, PySem.W.mg_of X G cc4, rfl, fun H => Rp.tup (xs := [.ref p4_0, .ref p4_1, .ref p4_2, .ref p4_3]) (.inr ⟨_, _, _, cl4, rfl, rfl, (by show 4 ≤ sizeLine; decide), (.cons rfl (.cons rfl (.cons rfl (.cons rfl .nil))))⟩) (.cons (Rp.tup (xs := [.bl false, .bl false]) (.inr ⟨_, _, _, cl4_0, rfl, rfl, (by show 2 ≤ sizeLine; decide), (.cons rfl (.cons rfl .nil))⟩) (.cons (.bl _) (.cons (.bl _) .nil))) (.cons (Rp.tup (xs := [.bl false, .bl true]) (.inr ⟨_, _, _, cl4_1, rfl, rfl, (by show 2 ≤ sizeLine; decide), (.cons rfl (.cons rfl .nil))⟩) (.cons (.bl _) (.cons (.bl _) .nil))) (.cons (Rp.tup (xs := [.bl true, .bl false]) (.inr ⟨_, _, _, cl4_2, rfl, rfl, (by show 2 ≤ sizeLine; decide), (.cons rfl (.cons rfl .nil))⟩) (.cons (.bl _) (.cons (.bl _) .nil))) (.cons (Rp.tup (xs := [.bl true, .bl true]) (.inr ⟨_, _, _, cl4_3, rfl, rfl, (by show 2 ≤ sizeLine; decide), (.cons rfl (.cons rfl .nil))⟩) (.cons (.bl _) (.cons (.bl _) .nil))) .nil))))⟩⟩ }
  letI : Tabl := ⟨[(tb35, ((PyProof.Rows.envOfC "law" (defScope s_law) 0 0 .none).qual ++ "<lambda>"))], ca, 0⟩
  have eT : (Tabl.T : List (Addr × Str)) = [(tb35, ((PyProof.Rows.envOfC "law" (defScope s_law) 0 0 .none).qual ++ "<lambda>"))] := rfl
  refine ⟨_, [(cc35, tb35)], spLaw K, ?h1, ?h2, ?h3, ?h4, ?h5, fun base _ _ hB => ok_law T { t_law := hB (cc35, tb35) List.mem_cons_self, m_law := (by rw [eT]; exact List.mem_cons_self), u_law := (by intro r hr; simp only [eT, List.mem_cons, List.not_mem_nil, or_false] at hr; rcases hr with rfl; exact fun _ => rfl) } law_true⟩
  case h4 => exact fun s v => .of_eq rfl
  case h1 => intro p hp; simp only [List.mem_cons, List.not_mem_nil, or_false] at hp; rcases hp with rfl; exact tq35.2
  case h2 => intro p hp; simp only [List.mem_cons, List.not_mem_nil, or_false] at hp; rcases hp with rfl; exact tn35
  case h3 => intro p hp; simp only [List.mem_cons, List.not_mem_nil, or_false] at hp; rcases hp with rfl; exact tq35.1
  case h5 =>
    intro H a ns hl _ hH hS
    refine ⟨a, ns, rfl, hS, hl, ?_, fun _ => rfl⟩
    intro p hp; simp only [eT, List.mem_cons, List.not_mem_nil, or_false] at hp; rcases hp with rfl; exact LamX.TabS.nil (hH (cc35, tb35) List.mem_cons_self)
end Tk
open PySem PySem.W PyProof.Rows
set_option maxHeartbeats 0 in
theorem PySem.Challenge.cw_twokeys_k52_whole_holds_played_holds : PySem.Challenge.rw_twokeys_k52_whole_holds_played.Holds := by
  w_on; o_law; k_head; (case hw => w_witness2)
  k_fill
  letI : Dn.Tabl := ⟨[], fun _ => 0, 0⟩
  refine Dn.walk_T (l := PySem.Challenge.rw_twokeys_k52_whole_holds_played) (n := 63) (k := 8) (x := "script") (CX := fun w => L2N.CX PySem.Challenge.rw_twokeys_k52_whole_holds_played.prog w) rfl (by decide) rfl ⟨rfl, by decide, by decide⟩ (fun w h Y => PySem.W.km_in_of Y) ?F (fun _ _ _ _ _ h => (haveI : Dn.Tabl := ⟨[], fun _ => 0, 0⟩; Dn.cx_false h))
  case F =>
    intro w mg fa h Y KX G hmg tabs
    refine' Tk.all_mk KX G hmg (tabs "law" _ _ _ ?r35 ?t35) ?oa0 ?opg0 ?ohd0 ?opo0 ?osa0 ?omk0 ?okc0 ?on0_0 ?on0_1 ?on0_2 ?on0_3 ?on0_4 ?on0_5 ?on0_6 ?on0_7 ?on0_8 ?on0_9 ?a0 ?l0 ?c0 ?k0 ?a1 ?l1 ?c1 ?k1 ?a2 ?l2 ?c2 ?k2 ?a3 ?l3 ?c3 ?k3 ?a4 ?l4 ?c4 ?k4 ?a5 ?l5 ?c5 ?k5 ?a6 ?i6 ?l6 ?c6 ?k6 ?a7 ?l7 ?c7 ?k7 ?a8 ?l8 ?c8 ?k8 ?a9 ?l9 ?c9 ?k9 ?a10 ?l10 ?c10 ?k10 ?a11 ?l11 ?c11 ?k11 ?a12 ?l12 ?c12 ?k12 ?a13 ?l13 ?c13 ?k13 ?a14 ?l14 ?c14 ?k14 ?a15 ?l15 ?c15 ?k15 ?a16 ?l16 ?c16 ?k16 ?a17 ?l17 ?c17 ?k17 ?a18 ?i18 ?l18 ?c18 ?k18 ?a19 ?i19 ?l19 ?c19 ?k19 ?a20 ?l20 ?c20 ?k20 ?a21 ?l21 ?c21 ?k21 ?a22 ?l22 ?c22 ?k22 ?a23 ?i23 ?l23 ?c23 ?k23 ?a24 ?i24 ?l24 ?c24 ?k24 ?a25 ?l25 ?c25 ?k25 ?a26 ?i26 ?l26 ?c26 ?k26 ?a27 ?i27 ?l27 ?c27 ?k27 ?a28 ?l28 ?c28 ?k28 ?a29 ?l29 ?c29 ?k29 ?a30 ?l30 ?c30 ?k30 ?a31 ?l31 ?c31 ?k31 ?a32 ?l32 ?c32 ?k32 ?a33 ?l33 ?c33 ?k33 ?a34 ?l34 ?c34 ?k34 ?a35 ?l35 ?c35 ?k35 ?tn35 ?ea0 ?ex0 ?ek0 ?eb0 ?et0 ?ea1 ?ex1 ?ek1 ?eb1 ?et1 ?ea2 ?ex2 ?ek2 ?eb2 ?et2 ?ea3 ?ex3 ?ek3 ?eb3 ?et3 ?ea4 ?ea5 ?ea6 ?ea7 ?ea8 ?xn ?xt ?kt0_0 ?kt0_1 ?kt0_2 ?kt0_3 ?kt0_4 ?kt0_5 ?kt0_6 ?kt0_7 ?kv0 ?kc0 ?xg0 ?xk0 ?xd0 ?xa0 ?xm0 ?kt1_0 ?kt1_1 ?kt1_2 ?kt1_3 ?kt1_4 ?kt1_5 ?kt1_6 ?kt1_7 ?kv1 ?kc1 ?xg1 ?xk1 ?xd1 ?xa1 ?xm1 ?kt2_0 ?kt2_1 ?kt2_2 ?kt2_3 ?kt2_4 ?kt2_5 ?kt2_6 ?kt2_7 ?kv2 ?kc2 ?xg2 ?xk2 ?xd2 ?xa2 ?xm2 ?kt3_0 ?kt3_1 ?kt3_2 ?kt3_3 ?kt3_4 ?kt3_5 ?kt3_6 ?kt3_7 ?kv3 ?kc3 ?xg3 ?xk3 ?xd3 ?xa3 ?xm3 ?z_ValueError ?z_all ?z_bool ?z_int ?z_isinstance ?z_len ?z_list ?z_max ?z_min ?z_range ?z_set ?z_str ?z_sum ?z_tuple ?z_zip ?cc0 ?cc1 ?cc2 ?cl2 ?cc3 ?cc4 ?cl4 ?cl4_0 ?cl4_1 ?cl4_2 ?cl4_3
    (case t35 => first | k_is | rfl | decide +kernel)
    (case r35 => first | rfl | decide +kernel)
    (case oa0 => first | k_is | k_exc | kernel_rfl | decide +kernel); (case opg0 => first | k_is | k_exc | kernel_rfl | decide +kernel); (case ohd0 => first | k_is | k_exc | kernel_rfl | decide +kernel); (case opo0 => first | k_is | k_exc | kernel_rfl | decide +kernel); (case osa0 => first | k_is | k_exc | kernel_rfl | decide +kernel); (case omk0 => first | k_is | k_exc | kernel_rfl | decide +kernel); (case okc0 => first | k_is | k_exc | kernel_rfl | decide +kernel); (case on0_0 => first | k_is | k_exc | kernel_rfl | decide +kernel); (case on0_1 => first | k_is | k_exc | kernel_rfl | decide +kernel); (case on0_2 => first | k_is | k_exc | kernel_rfl | decide +kernel); (case on0_3 => first | k_is | k_exc | kernel_rfl | decide +kernel); (case on0_4 => first | k_is | k_exc | kernel_rfl | decide +kernel); (case on0_5 => first | k_is | k_exc | kernel_rfl | decide +kernel); (case on0_6 => first | k_is | k_exc | kernel_rfl | decide +kernel); (case on0_7 => first | k_is | k_exc | kernel_rfl | decide +kernel); (case on0_8 => first | k_is | k_exc | kernel_rfl | decide +kernel); (case on0_9 => first | k_is | k_exc | kernel_rfl | decide +kernel); (case a0 => first | k_is | k_exc | kernel_rfl | decide +kernel); (case l0 => first | k_is | k_exc | kernel_rfl | decide +kernel); (case c0 => first | k_is | k_exc | kernel_rfl | decide +kernel); (case k0 => first | k_is | k_exc | kernel_rfl | decide +kernel); (case a1 => first | k_is | k_exc | kernel_rfl | decide +kernel); (case l1 => first | k_is | k_exc | kernel_rfl | decide +kernel); (case c1 => first | k_is | k_exc | kernel_rfl | decide +kernel); (case k1 => first | k_is | k_exc | kernel_rfl | decide +kernel); (case a2 => first | k_is | k_exc | kernel_rfl | decide +kernel); (case l2 => first | k_is | k_exc | kernel_rfl | decide +kernel); (case c2 => first | k_is | k_exc | kernel_rfl | decide +kernel); (case k2 => first | k_is | k_exc | kernel_rfl | decide +kernel); (case a3 => first | k_is | k_exc | kernel_rfl | decide +kernel); (case l3 => first | k_is | k_exc | kernel_rfl | decide +kernel); (case c3 => first | k_is | k_exc | kernel_rfl | decide +kernel); (case k3 => first | k_is | k_exc | kernel_rfl | decide +kernel); (case a4 => first | k_is | k_exc | kernel_rfl | decide +kernel); (case l4 => first | k_is | k_exc | kernel_rfl | decide +kernel); (case c4 => first | k_is | k_exc | kernel_rfl | decide +kernel); (case k4 => first | k_is | k_exc | kernel_rfl | decide +kernel); (case a5 => first | k_is | k_exc | kernel_rfl | decide +kernel); (case l5 => first | k_is | k_exc | kernel_rfl | decide +kernel); (case c5 => first | k_is | k_exc | kernel_rfl | decide +kernel); (case k5 => first | k_is | k_exc | kernel_rfl | decide +kernel); (case a6 => first | k_is | k_exc | kernel_rfl | decide +kernel); (case i6 => first | k_is | k_exc | kernel_rfl | decide +kernel); (case l6 => first | k_is | k_exc | kernel_rfl | decide +kernel); (case c6 => first | k_is | k_exc | kernel_rfl | decide +kernel); (case k6 => first | k_is | k_exc | kernel_rfl | decide +kernel); (case a7 => first | k_is | k_exc | kernel_rfl | decide +kernel); (case l7 => first | k_is | k_exc | kernel_rfl | decide +kernel); (case c7 => first | k_is | k_exc | kernel_rfl | decide +kernel); (case k7 => first | k_is | k_exc | kernel_rfl | decide +kernel); (case a8 => first | k_is | k_exc | kernel_rfl | decide +kernel); (case l8 => first | k_is | k_exc | kernel_rfl | decide +kernel); (case c8 => first | k_is | k_exc | kernel_rfl | decide +kernel); (case k8 => first | k_is | k_exc | kernel_rfl | decide +kernel); (case a9 => first | k_is | k_exc | kernel_rfl | decide +kernel); (case l9 => first | k_is | k_exc | kernel_rfl | decide +kernel); (case c9 => first | k_is | k_exc | kernel_rfl | decide +kernel); (case k9 => first | k_is | k_exc | kernel_rfl | decide +kernel); (case a10 => first | k_is | k_exc | kernel_rfl | decide +kernel); (case l10 => first | k_is | k_exc | kernel_rfl | decide +kernel); (case c10 => first | k_is | k_exc | kernel_rfl | decide +kernel); (case k10 => first | k_is | k_exc | kernel_rfl | decide +kernel); (case a11 => first | k_is | k_exc | kernel_rfl | decide +kernel); (case l11 => first | k_is | k_exc | kernel_rfl | decide +kernel); (case c11 => first | k_is | k_exc | kernel_rfl | decide +kernel); (case k11 => first | k_is | k_exc | kernel_rfl | decide +kernel); (case a12 => first | k_is | k_exc | kernel_rfl | decide +kernel); (case l12 => first | k_is | k_exc | kernel_rfl | decide +kernel); (case c12 => first | k_is | k_exc | kernel_rfl | decide +kernel); (case k12 => first | k_is | k_exc | kernel_rfl | decide +kernel); (case a13 => first | k_is | k_exc | kernel_rfl | decide +kernel); (case l13 => first | k_is | k_exc | kernel_rfl | decide +kernel); (case c13 => first | k_is | k_exc | kernel_rfl | decide +kernel); (case k13 => first | k_is | k_exc | kernel_rfl | decide +kernel); (case a14 => first | k_is | k_exc | kernel_rfl | decide +kernel); (case l14 => first | k_is | k_exc | kernel_rfl | decide +kernel); (case c14 => first | k_is | k_exc | kernel_rfl | decide +kernel); (case k14 => first | k_is | k_exc | kernel_rfl | decide +kernel); (case a15 => first | k_is | k_exc | kernel_rfl | decide +kernel); (case l15 => first | k_is | k_exc | kernel_rfl | decide +kernel); (case c15 => first | k_is | k_exc | kernel_rfl | decide +kernel); (case k15 => first | k_is | k_exc | kernel_rfl | decide +kernel); (case a16 => first | k_is | k_exc | kernel_rfl | decide +kernel); (case l16 => first | k_is | k_exc | kernel_rfl | decide +kernel); (case c16 => first | k_is | k_exc | kernel_rfl | decide +kernel); (case k16 => first | k_is | k_exc | kernel_rfl | decide +kernel); (case a17 => first | k_is | k_exc | kernel_rfl | decide +kernel); (case l17 => first | k_is | k_exc | kernel_rfl | decide +kernel); (case c17 => first | k_is | k_exc | kernel_rfl | decide +kernel); (case k17 => first | k_is | k_exc | kernel_rfl | decide +kernel); (case a18 => first | k_is | k_exc | kernel_rfl | decide +kernel); (case i18 => first | k_is | k_exc | kernel_rfl | decide +kernel); (case l18 => first | k_is | k_exc | kernel_rfl | decide +kernel); (case c18 => first | k_is | k_exc | kernel_rfl | decide +kernel); (case k18 => first | k_is | k_exc | kernel_rfl | decide +kernel); (case a19 => first | k_is | k_exc | kernel_rfl | decide +kernel); (case i19 => first | k_is | k_exc | kernel_rfl | decide +kernel); (case l19 => first | k_is | k_exc | kernel_rfl | decide +kernel); (case c19 => first | k_is | k_exc | kernel_rfl | decide +kernel); (case k19 => first | k_is | k_exc | kernel_rfl | decide +kernel); (case a20 => first | k_is | k_exc | kernel_rfl | decide +kernel); (case l20 => first | k_is | k_exc | kernel_rfl | decide +kernel); (case c20 => first | k_is | k_exc | kernel_rfl | decide +kernel); (case k20 => first | k_is | k_exc | kernel_rfl | decide +kernel); (case a21 => first | k_is | k_exc | kernel_rfl | decide +kernel); (case l21 => first | k_is | k_exc | kernel_rfl | decide +kernel); (case c21 => first | k_is | k_exc | kernel_rfl | decide +kernel); (case k21 => first | k_is | k_exc | kernel_rfl | decide +kernel); (case a22 => first | k_is | k_exc | kernel_rfl | decide +kernel); (case l22 => first | k_is | k_exc | kernel_rfl | decide +kernel); (case c22 => first | k_is | k_exc | kernel_rfl | decide +kernel); (case k22 => first | k_is | k_exc | kernel_rfl | decide +kernel); (case a23 => first | k_is | k_exc | kernel_rfl | decide +kernel); (case i23 => first | k_is | k_exc | kernel_rfl | decide +kernel); (case l23 => first | k_is | k_exc | kernel_rfl | decide +kernel); (case c23 => first | k_is | k_exc | kernel_rfl | decide +kernel); (case k23 => first | k_is | k_exc | kernel_rfl | decide +kernel); (case a24 => first | k_is | k_exc | kernel_rfl | decide +kernel); (case i24 => first | k_is | k_exc | kernel_rfl | decide +kernel); (case l24 => first | k_is | k_exc | kernel_rfl | decide +kernel); (case c24 => first | k_is | k_exc | kernel_rfl | decide +kernel); (case k24 => first | k_is | k_exc | kernel_rfl | decide +kernel); (case a25 => first | k_is | k_exc | kernel_rfl | decide +kernel); (case l25 => first | k_is | k_exc | kernel_rfl | decide +kernel); (case c25 => first | k_is | k_exc | kernel_rfl | decide +kernel); (case k25 => first | k_is | k_exc | kernel_rfl | decide +kernel); (case a26 => first | k_is | k_exc | kernel_rfl | decide +kernel); (case i26 => first | k_is | k_exc | kernel_rfl | decide +kernel); (case l26 => first | k_is | k_exc | kernel_rfl | decide +kernel); (case c26 => first | k_is | k_exc | kernel_rfl | decide +kernel); (case k26 => first | k_is | k_exc | kernel_rfl | decide +kernel); (case a27 => first | k_is | k_exc | kernel_rfl | decide +kernel); (case i27 => first | k_is | k_exc | kernel_rfl | decide +kernel); (case l27 => first | k_is | k_exc | kernel_rfl | decide +kernel); (case c27 => first | k_is | k_exc | kernel_rfl | decide +kernel); (case k27 => first | k_is | k_exc | kernel_rfl | decide +kernel); (case a28 => first | k_is | k_exc | kernel_rfl | decide +kernel); (case l28 => first | k_is | k_exc | kernel_rfl | decide +kernel); (case c28 => first | k_is | k_exc | kernel_rfl | decide +kernel); (case k28 => first | k_is | k_exc | kernel_rfl | decide +kernel); (case a29 => first | k_is | k_exc | kernel_rfl | decide +kernel); (case l29 => first | k_is | k_exc | kernel_rfl | decide +kernel); (case c29 => first | k_is | k_exc | kernel_rfl | decide +kernel); (case k29 => first | k_is | k_exc | kernel_rfl | decide +kernel); (case a30 => first | k_is | k_exc | kernel_rfl | decide +kernel); (case l30 => first | k_is | k_exc | kernel_rfl | decide +kernel); (case c30 => first | k_is | k_exc | kernel_rfl | decide +kernel); (case k30 => first | k_is | k_exc | kernel_rfl | decide +kernel); (case a31 => first | k_is | k_exc | kernel_rfl | decide +kernel); (case l31 => first | k_is | k_exc | kernel_rfl | decide +kernel); (case c31 => first | k_is | k_exc | kernel_rfl | decide +kernel); (case k31 => first | k_is | k_exc | kernel_rfl | decide +kernel); (case a32 => first | k_is | k_exc | kernel_rfl | decide +kernel); (case l32 => first | k_is | k_exc | kernel_rfl | decide +kernel); (case c32 => first | k_is | k_exc | kernel_rfl | decide +kernel); (case k32 => first | k_is | k_exc | kernel_rfl | decide +kernel); (case a33 => first | k_is | k_exc | kernel_rfl | decide +kernel); (case l33 => first | k_is | k_exc | kernel_rfl | decide +kernel); (case c33 => first | k_is | k_exc | kernel_rfl | decide +kernel); (case k33 => first | k_is | k_exc | kernel_rfl | decide +kernel); (case a34 => first | k_is | k_exc | kernel_rfl | decide +kernel); (case l34 => first | k_is | k_exc | kernel_rfl | decide +kernel); (case c34 => first | k_is | k_exc | kernel_rfl | decide +kernel); (case k34 => first | k_is | k_exc | kernel_rfl | decide +kernel); (case a35 => first | k_is | k_exc | kernel_rfl | decide +kernel); (case l35 => first | k_is | k_exc | kernel_rfl | decide +kernel); (case c35 => first | k_is | k_exc | kernel_rfl | decide +kernel); (case k35 => first | k_is | k_exc | kernel_rfl | decide +kernel); (case tn35 => first | k_is | k_exc | kernel_rfl | decide +kernel); (case ea0 => first | k_is | k_exc | kernel_rfl | decide +kernel); (case ex0 => first | k_is | k_exc | kernel_rfl | decide +kernel); (case ek0 => first | k_is | k_exc | kernel_rfl | decide +kernel); (case eb0 => first | k_is | k_exc | kernel_rfl | decide +kernel); (case et0 => first | k_is | k_exc | kernel_rfl | decide +kernel); (case ea1 => first | k_is | k_exc | kernel_rfl | decide +kernel); (case ex1 => first | k_is | k_exc | kernel_rfl | decide +kernel); (case ek1 => first | k_is | k_exc | kernel_rfl | decide +kernel); (case eb1 => first | k_is | k_exc | kernel_rfl | decide +kernel); (case et1 => first | k_is | k_exc | kernel_rfl | decide +kernel); (case ea2 => first | k_is | k_exc | kernel_rfl | decide +kernel); (case ex2 => first | k_is | k_exc | kernel_rfl | decide +kernel); (case ek2 => first | k_is | k_exc | kernel_rfl | decide +kernel); (case eb2 => first | k_is | k_exc | kernel_rfl | decide +kernel); (case et2 => first | k_is | k_exc | kernel_rfl | decide +kernel); (case ea3 => first | k_is | k_exc | kernel_rfl | decide +kernel); (case ex3 => first | k_is | k_exc | kernel_rfl | decide +kernel); (case ek3 => first | k_is | k_exc | kernel_rfl | decide +kernel); (case eb3 => first | k_is | k_exc | kernel_rfl | decide +kernel); (case et3 => first | k_is | k_exc | kernel_rfl | decide +kernel); (case ea4 => first | k_is | k_exc | kernel_rfl | decide +kernel); (case ea5 => first | k_is | k_exc | kernel_rfl | decide +kernel); (case ea6 => first | k_is | k_exc | kernel_rfl | decide +kernel); (case ea7 => first | k_is | k_exc | kernel_rfl | decide +kernel); (case ea8 => first | k_is | k_exc | kernel_rfl | decide +kernel); (case xn => first | k_is | k_exc | kernel_rfl | decide +kernel); (case xt => first | k_is | k_exc | kernel_rfl | decide +kernel); (case kt0_0 => first | k_is | k_exc | kernel_rfl | decide +kernel); (case kt0_1 => first | k_is | k_exc | kernel_rfl | decide +kernel); (case kt0_2 => first | k_is | k_exc | kernel_rfl | decide +kernel); (case kt0_3 => first | k_is | k_exc | kernel_rfl | decide +kernel); (case kt0_4 => first | k_is | k_exc | kernel_rfl | decide +kernel); (case kt0_5 => first | k_is | k_exc | kernel_rfl | decide +kernel); (case kt0_6 => first | k_is | k_exc | kernel_rfl | decide +kernel); (case kt0_7 => first | k_is | k_exc | kernel_rfl | decide +kernel); (case kv0 => first | k_is | k_exc | kernel_rfl | decide +kernel); (case kc0 => first | k_is | k_exc | kernel_rfl | decide +kernel); (case xg0 => first | k_is | k_exc | kernel_rfl | decide +kernel); (case xk0 => first | k_is | k_exc | kernel_rfl | decide +kernel); (case xd0 => first | k_is | k_exc | kernel_rfl | decide +kernel); (case xa0 => first | k_is | k_exc | kernel_rfl | decide +kernel); (case xm0 => first | k_is | k_exc | kernel_rfl | decide +kernel); (case kt1_0 => first | k_is | k_exc | kernel_rfl | decide +kernel); (case kt1_1 => first | k_is | k_exc | kernel_rfl | decide +kernel); (case kt1_2 => first | k_is | k_exc | kernel_rfl | decide +kernel); (case kt1_3 => first | k_is | k_exc | kernel_rfl | decide +kernel); (case kt1_4 => first | k_is | k_exc | kernel_rfl | decide +kernel); (case kt1_5 => first | k_is | k_exc | kernel_rfl | decide +kernel); (case kt1_6 => first | k_is | k_exc | kernel_rfl | decide +kernel); (case kt1_7 => first | k_is | k_exc | kernel_rfl | decide +kernel); (case kv1 => first | k_is | k_exc | kernel_rfl | decide +kernel); (case kc1 => first | k_is | k_exc | kernel_rfl | decide +kernel); (case xg1 => first | k_is | k_exc | kernel_rfl | decide +kernel); (case xk1 => first | k_is | k_exc | kernel_rfl | decide +kernel); (case xd1 => first | k_is | k_exc | kernel_rfl | decide +kernel); (case xa1 => first | k_is | k_exc | kernel_rfl | decide +kernel); (case xm1 => first | k_is | k_exc | kernel_rfl | decide +kernel); (case kt2_0 => first | k_is | k_exc | kernel_rfl | decide +kernel); (case kt2_1 => first | k_is | k_exc | kernel_rfl | decide +kernel); (case kt2_2 => first | k_is | k_exc | kernel_rfl | decide +kernel); (case kt2_3 => first | k_is | k_exc | kernel_rfl | decide +kernel); (case kt2_4 => first | k_is | k_exc | kernel_rfl | decide +kernel); (case kt2_5 => first | k_is | k_exc | kernel_rfl | decide +kernel); (case kt2_6 => first | k_is | k_exc | kernel_rfl | decide +kernel); (case kt2_7 => first | k_is | k_exc | kernel_rfl | decide +kernel); (case kv2 => first | k_is | k_exc | kernel_rfl | decide +kernel); (case kc2 => first | k_is | k_exc | kernel_rfl | decide +kernel); (case xg2 => first | k_is | k_exc | kernel_rfl | decide +kernel); (case xk2 => first | k_is | k_exc | kernel_rfl | decide +kernel); (case xd2 => first | k_is | k_exc | kernel_rfl | decide +kernel); (case xa2 => first | k_is | k_exc | kernel_rfl | decide +kernel); (case xm2 => first | k_is | k_exc | kernel_rfl | decide +kernel); (case kt3_0 => first | k_is | k_exc | kernel_rfl | decide +kernel); (case kt3_1 => first | k_is | k_exc | kernel_rfl | decide +kernel); (case kt3_2 => first | k_is | k_exc | kernel_rfl | decide +kernel); (case kt3_3 => first | k_is | k_exc | kernel_rfl | decide +kernel); (case kt3_4 => first | k_is | k_exc | kernel_rfl | decide +kernel); (case kt3_5 => first | k_is | k_exc | kernel_rfl | decide +kernel); (case kt3_6 => first | k_is | k_exc | kernel_rfl | decide +kernel); (case kt3_7 => first | k_is | k_exc | kernel_rfl | decide +kernel); (case kv3 => first | k_is | k_exc | kernel_rfl | decide +kernel); (case kc3 => first | k_is | k_exc | kernel_rfl | decide +kernel); (case xg3 => first | k_is | k_exc | kernel_rfl | decide +kernel); (case xk3 => first | k_is | k_exc | kernel_rfl | decide +kernel); (case xd3 => first | k_is | k_exc | kernel_rfl | decide +kernel); (case xa3 => first | k_is | k_exc | kernel_rfl | decide +kernel); (case xm3 => first | k_is | k_exc | kernel_rfl | decide +kernel); (case z_ValueError => first | k_is | k_exc | kernel_rfl | decide +kernel); (case z_all => first | k_is | k_exc | kernel_rfl | decide +kernel); (case z_bool => first | k_is | k_exc | kernel_rfl | decide +kernel); (case z_int => first | k_is | k_exc | kernel_rfl | decide +kernel); (case z_isinstance => first | k_is | k_exc | kernel_rfl | decide +kernel); (case z_len => first | k_is | k_exc | kernel_rfl | decide +kernel); (case z_list => first | k_is | k_exc | kernel_rfl | decide +kernel); (case z_max => first | k_is | k_exc | kernel_rfl | decide +kernel); (case z_min => first | k_is | k_exc | kernel_rfl | decide +kernel); (case z_range => first | k_is | k_exc | kernel_rfl | decide +kernel); (case z_set => first | k_is | k_exc | kernel_rfl | decide +kernel); (case z_str => first | k_is | k_exc | kernel_rfl | decide +kernel); (case z_sum => first | k_is | k_exc | kernel_rfl | decide +kernel); (case z_tuple => first | k_is | k_exc | kernel_rfl | decide +kernel); (case z_zip => first | k_is | k_exc | kernel_rfl | decide +kernel); (case cc0 => first | k_is | k_exc | kernel_rfl | decide +kernel); (case cc1 => first | k_is | k_exc | kernel_rfl | decide +kernel); (case cc2 => first | k_is | k_exc | kernel_rfl | decide +kernel); (case cl2 => first | k_is | k_exc | kernel_rfl | decide +kernel); (case cc3 => first | k_is | k_exc | kernel_rfl | decide +kernel); (case cc4 => first | k_is | k_exc | kernel_rfl | decide +kernel); (case cl4 => first | k_is | k_exc | kernel_rfl | decide +kernel); (case cl4_0 => first | k_is | k_exc | kernel_rfl | decide +kernel); (case cl4_1 => first | k_is | k_exc | kernel_rfl | decide +kernel); (case cl4_2 => first | k_is | k_exc | kernel_rfl | decide +kernel); (case cl4_3 => first | k_is | k_exc | kernel_rfl | decide +kernel)
